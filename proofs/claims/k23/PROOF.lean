import PyProof.Rows.All
import Wide.All
import OpenK.AllK
import Wide.FinOn
import HandS.ForMost
import HandS.ForExc
import HandS.IsInst
import HandS.Small
import HandS.More
import HandS.TupLen
import HandS.TupAny
import HandS.TupMul
import HandS.TupLe
import KE.DataEq
import KE.SortData
import HandS.FStr
import HandS.SetFor
import HandS.Strs
import HandS.Zip
import HandS.Rev
import HandS.RevRange
import HandS.SortInts
import PyProof.EnumMake
import PyProof.Draws
import HandS.SortRule
import HandS.Conv
import PyProof.ListStr
import PyProof.Rows.SortShellAny
import HandS.DictComp
import HandS.ExcIs
import HandS.HotCalls
import HandS.TryMany
import KE.KDictZip
import HandS.Replace
import HandS.ReplaceLit
import HandS.TryOnly
import HandS.MapObj
import HandS.SetKeys
import KE.KEqDict
import PySem.Challenge.RW_playboard_k23_whole_words_follow
set_option Elab.async false
set_option linter.all false
set_option maxRecDepth 100000
/-! D: data without a heap; what it means that a value of the abstract heap bears a datum; environments. -/
namespace Dl
open PySem L2

inductive D where
  | non | bl (b : Bool) | int (i : Int) | str (x : Str) | ty (n : String) | scr (ns : List Int)
  | lst (xs : List D) | tup (xs : List D) | ktup (xs : List D) | dicK (kvs : List (Key × D)) | dicT (kvs : List (List Key × D)) | ins (c : Str) (fs : List (Str × D)) | slf (a : Addr) (c : Str) (fs : List (Str × D)) | exc (a : Addr) (c : Str) | cls (c : Str) | nst (b : Bool) (kvs : List (Key × List D))
  deriving Inhabited

/-- how a field of an owned instance is held: shared; a list or dict of its own; a dict of lists of its own -/
inductive Ow where | sh | top | dl
  deriving DecidableEq
/-- the classes: where they stand; their fields -/
structure CM where
  cl : Str → Option Addr
  mu : Str → Str → Ow
instance : CoeFun CM fun _ => Str → Option Addr := ⟨CM.cl⟩
def excN : List Str := ["PlayError", "BadBoard", "BadGame", "BadLine", "BadPlace", "NoMove", "TooWide", "NoWord", "Over", "NothingBack"]
/-- the classes that have instances; the others are exceptions -/
def iM (Γ : CM) : Str → Option Addr := fun c => if excN.contains c = true then none else Γ c

/-- a dict (or: a list, its keys mean nothing) whose values are lists of their own -/
def nstO (b : Bool) (vs : List (Key × V)) : HO := if b = true then .dK vs else .lst (vs.map (·.2))
mutual
def Rep (K : PySem.W.Frag) (Γ : CM) (S : Hp) : D → V → Prop
  | .non, v => v = .non
  | .bl b, v => v = .bl b
  | .int i, v => v = .int i
  | .str x, v => v = .str x ∧ x.length ≤ sizeLine
  | .ty n, v => v = .ty n
  | .scr ns, v => ∃ a, v = .ref a ∧ SqL K S a (ns.map V.int) ∧ ns.length ≤ 63
  | .lst ds, v => ∃ a vs, v = .ref a ∧ S a = some (.lst vs) ∧ ds.length ≤ sizeLine ∧ RepL K Γ S ds vs
  | .tup ds, v => ∃ a vs, v = .ref a ∧ S a = some (.tup vs) ∧ ds.length ≤ sizeLine ∧ RepL K Γ S ds vs
  | .ktup ds, v => ∃ a vs, v = .ref a ∧ SqT K S a vs ∧ ds.length ≤ sizeLine ∧ RepL K Γ S ds vs
  | .dicK ds, v => ∃ a vs, v = .ref a ∧ S a = some (.dK vs) ∧ RepK K Γ S ds vs
  | .dicT ds, v => ∃ a vs, v = .ref a ∧ S a = some (.dT vs) ∧ RepT K Γ S ds vs
  | .ins c ds, v => ∃ a C dx vs, v = .ref a ∧ iM Γ c = some C ∧ S a = some (.ins C dx vs) ∧ RepF K Γ S ds vs
  | .slf b c ds, v => ∃ a C dx vs, v = .ref a ∧ iM Γ c = some C ∧ S a = some (.ins C dx vs) ∧ RepF K Γ S ds vs ∧ a = b
  | .exc a _, v => v = .ref a
  | .cls c, v => ∃ C, Γ c = some C ∧ v = .ref C
  | .nst b kvs, v => ∃ a vs, v = .ref a ∧ S a = some (nstO b vs) ∧ kvs.length ≤ sizeLine ∧ RepN K Γ S kvs vs
def RepL (K : PySem.W.Frag) (Γ : CM) (S : Hp) : List D → List V → Prop
  | [], vs => vs = []
  | d :: ds, vs => ∃ v ws, vs = v :: ws ∧ Rep K Γ S d v ∧ RepL K Γ S ds ws
def RepK (K : PySem.W.Frag) (Γ : CM) (S : Hp) : List (Key × D) → List (Key × V) → Prop
  | [], vs => vs = []
  | (k, d) :: ds, vs => ∃ v ws, vs = (k, v) :: ws ∧ Rep K Γ S d v ∧ RepK K Γ S ds ws
def RepT (K : PySem.W.Frag) (Γ : CM) (S : Hp) : List (List Key × D) → List (List Key × V) → Prop
  | [], vs => vs = []
  | (k, d) :: ds, vs => ∃ v ws, vs = (k, v) :: ws ∧ Rep K Γ S d v ∧ RepT K Γ S ds ws
def RepF (K : PySem.W.Frag) (Γ : CM) (S : Hp) : List (Str × D) → List (Str × V) → Prop
  | [], vs => vs = []
  | (k, d) :: ds, vs => ∃ v ws, vs = (k, v) :: ws ∧ Rep K Γ S d v ∧ RepF K Γ S ds ws
def RepN (K : PySem.W.Frag) (Γ : CM) (S : Hp) : List (Key × List D) → List (Key × V) → Prop
  | [], vs => vs = []
  | (k, e) :: ds, vs => ∃ q us ws, vs = (k, .ref q) :: ws ∧ S q = some (.lst us) ∧ e.length ≤ sizeLine ∧ RepL K Γ S e us ∧ RepN K Γ S ds ws
end

theorem Same.sqt {K : PySem.W.Frag} {H H' : Hp} {a : Addr} {xs : List V} (e : Same H H') (h : SqT K H a xs) : SqT K H' a xs := by
  rcases h with (h | ⟨o, h⟩) | h
  · exact .inl (.inl (e _ _ h))
  · exact .inl (.inr ⟨o, e _ _ h⟩)
  · exact .inr h

section
variable {K : PySem.W.Frag} {Γ : CM} {S S' : Hp}
mutual
theorem Rep.mono (s : Same S S') : ∀ {d : D} {v : V}, Rep K Γ S d v → Rep K Γ S' d v
  | .non, _, h => h
  | .bl _, _, h => h
  | .int _, _, h => h
  | .str _, _, h => h
  | .ty _, _, h => h
  | .scr _, _, ⟨a, e, h, n⟩ => ⟨a, e, s.seq h, n⟩
  | .lst ds, _, ⟨a, vs, e, h, n, r⟩ => ⟨a, vs, e, s _ _ h, n, RepL.mono s r⟩
  | .tup ds, _, ⟨a, vs, e, h, n, r⟩ => ⟨a, vs, e, s _ _ h, n, RepL.mono s r⟩
  | .ktup ds, _, ⟨a, vs, e, h, n, r⟩ => ⟨a, vs, e, Same.sqt s h, n, RepL.mono s r⟩
  | .dicK ds, _, ⟨a, vs, e, h, r⟩ => ⟨a, vs, e, s _ _ h, RepK.mono s r⟩
  | .dicT ds, _, ⟨a, vs, e, h, r⟩ => ⟨a, vs, e, s _ _ h, RepT.mono s r⟩
  | .ins c ds, _, ⟨a, C, dx, vs, e, g, h, r⟩ => ⟨a, C, dx, vs, e, g, s _ _ h, RepF.mono s r⟩
  | .slf b c ds, _, ⟨a, C, dx, vs, e, g, h, r, q⟩ => ⟨a, C, dx, vs, e, g, s _ _ h, RepF.mono s r, q⟩
  | .exc _ _, _, h => h
  | .cls _, _, h => h
  | .nst b kvs, _, ⟨a, vs, e, h, n, r⟩ => ⟨a, vs, e, s _ _ h, n, RepN.mono s r⟩
theorem RepL.mono (s : Same S S') : ∀ {ds : List D} {vs : List V}, RepL K Γ S ds vs → RepL K Γ S' ds vs
  | [], _, h => h
  | d :: ds, _, ⟨v, ws, e, r, t⟩ => ⟨v, ws, e, Rep.mono s r, RepL.mono s t⟩
theorem RepN.mono (s : Same S S') : ∀ {ds : List (Key × List D)} {vs : List (Key × V)}, RepN K Γ S ds vs → RepN K Γ S' ds vs
  | [], _, h => h
  | (k, e) :: ds, _, ⟨q, us, ws, e1, h, l, r, t⟩ => ⟨q, us, ws, e1, s _ _ h, l, RepL.mono s r, RepN.mono s t⟩
theorem RepK.mono (s : Same S S') : ∀ {ds : List (Key × D)} {vs : List (Key × V)}, RepK K Γ S ds vs → RepK K Γ S' ds vs
  | [], _, h => h
  | (k, d) :: ds, _, ⟨v, ws, e, r, t⟩ => ⟨v, ws, e, Rep.mono s r, RepK.mono s t⟩
theorem RepT.mono (s : Same S S') : ∀ {ds : List (List Key × D)} {vs : List (List Key × V)}, RepT K Γ S ds vs → RepT K Γ S' ds vs
  | [], _, h => h
  | (k, d) :: ds, _, ⟨v, ws, e, r, t⟩ => ⟨v, ws, e, Rep.mono s r, RepT.mono s t⟩
theorem RepF.mono (s : Same S S') : ∀ {ds : List (Str × D)} {vs : List (Str × V)}, RepF K Γ S ds vs → RepF K Γ S' ds vs
  | [], _, h => h
  | (k, d) :: ds, _, ⟨v, ws, e, r, t⟩ => ⟨v, ws, e, Rep.mono s r, RepF.mono s t⟩
end

theorem RepL.length : ∀ {ds : List D} {vs : List V}, RepL K Γ S ds vs → vs.length = ds.length
  | [], _, h => by rw [show _ = [] from h]; rfl
  | d :: ds, _, ⟨v, ws, e, r, t⟩ => by rw [e, List.length_cons, List.length_cons, RepL.length t]
theorem RepL.get : ∀ {ds : List D} {vs : List V} {i : Nat} {d : D}, RepL K Γ S ds vs → ds[i]? = some d → ∃ v, vs[i]? = some v ∧ Rep K Γ S d v
  | [], _, _, _, _, e => by simp at e
  | x :: ds, _, 0, d, ⟨v, ws, e, r, t⟩, q => by
    subst e
    have e : x = d := Option.some.inj q
    exact ⟨v, rfl, e ▸ r⟩
  | x :: ds, _, i + 1, d, ⟨v, ws, e, r, t⟩, q => by
    subst e
    exact RepL.get (i := i) t q
theorem RepL.append : ∀ {ds es : List D} {vs ws : List V}, RepL K Γ S ds vs → RepL K Γ S es ws → RepL K Γ S (ds ++ es) (vs ++ ws)
  | [], _, _, _, h, q => by rw [show _ = [] from h]; exact q
  | d :: ds, _, _, _, ⟨v, ws, e, r, t⟩, q => by
    subst e
    exact ⟨v, _, rfl, r, RepL.append t q⟩
theorem RepL.one {d : D} {v : V} (r : Rep K Γ S d v) : RepL K Γ S [d] [v] := ⟨v, [], rfl, r, rfl⟩
theorem RepL.take : ∀ {ds : List D} {vs : List V} (n : Nat), RepL K Γ S ds vs → RepL K Γ S (ds.take n) (vs.take n)
  | _, _, 0, h => by rw [List.take_zero, List.take_zero]; rfl
  | [], _, _ + 1, h => by rw [show _ = [] from h, List.take_nil, List.take_nil]; rfl
  | d :: ds, _, n + 1, ⟨v, ws, e, r, t⟩ => by
    subst e
    exact ⟨v, _, rfl, r, RepL.take n t⟩
theorem RepL.drop : ∀ {ds : List D} {vs : List V} (n : Nat), RepL K Γ S ds vs → RepL K Γ S (ds.drop n) (vs.drop n)
  | _, _, 0, h => h
  | [], _, _ + 1, h => by rw [show _ = [] from h, List.drop_nil, List.drop_nil]; rfl
  | d :: ds, _, n + 1, ⟨v, ws, e, r, t⟩ => by
    subst e
    exact RepL.drop n t
theorem RepL.set {d : D} {v : V} (r : Rep K Γ S d v) : ∀ {ds : List D} {vs : List V} (i : Nat), RepL K Γ S ds vs → RepL K Γ S (ds.set i d) (vs.set i v)
  | [], _, _, h => by rw [show _ = [] from h]; rfl
  | x :: ds, _, 0, ⟨w, ws, e, q, t⟩ => by subst e; exact ⟨v, ws, rfl, r, t⟩
  | x :: ds, _, i + 1, ⟨w, ws, e, q, t⟩ => by subst e; exact ⟨w, _, rfl, q, RepL.set r i t⟩
theorem RepL.ints : ∀ (ns : List Int), RepL K Γ S (ns.map D.int) (ns.map V.int)
  | [] => rfl
  | n :: ns => ⟨.int n, _, rfl, rfl, RepL.ints ns⟩
end

/-! ### heaps: S the shared part of H; ahead S H, behind S' H' -/
def isTupO : HO → Bool
  | .tup _ => true
  | _ => false
structure Ext (S H S' H' : Hp) : Prop where
  ss : Same S S'
  hh : Same H H'
  sh : Same S' H'
  fr : ∀ a o, H a = some o → isTupO o = false → S a = none → S' a = none
theorem Ext.refl {S H : Hp} (s : Same S H) : Ext S H S H := ⟨Same.refl _, Same.refl _, s, fun _ _ _ _ h => h⟩
theorem Ext.trans {S H S1 H1 S2 H2 : Hp} (a : Ext S H S1 H1) (b : Ext S1 H1 S2 H2) : Ext S H S2 H2 :=
  ⟨a.ss.trans b.ss, a.hh.trans b.hh, b.sh, fun c o h t n => b.fr c o (a.hh c o h) t (a.fr c o h t n)⟩
theorem Same.upd {H : Hp} {p : Addr} {o : HO} (h : H p = none) : Same H (upd H p o) := fun b x e => by
  rw [upd_ne (ne_of_none e h)]
  exact e
theorem Same.none {S H : Hp} (s : Same S H) {p : Addr} (h : H p = none) : S p = none := s.free h
/-- a new shared object -/
theorem Ext.shared {S H : Hp} (s : Same S H) {p : Addr} (h : H p = none) (o : HO) : Ext S H (upd S p o) (upd H p o) :=
  ⟨Same.upd (Same.none s h), Same.upd h, fun b x e => by
    by_cases q : b = p
    · subst q; rw [upd_same] at e ⊢; exact e
    · rw [upd_ne q] at e ⊢; exact s b x e, fun b x e _ n => by
    rw [upd_ne (ne_of_none e h)]
    exact n⟩
/-- a new object that is not shared (yet) -/
theorem Ext.owned {S H : Hp} (s : Same S H) {p : Addr} (h : H p = none) (o : HO) : Ext S H S (upd H p o) :=
  ⟨Same.refl _, Same.upd h, s.trans (Same.upd h), fun _ _ _ _ n => n⟩

/-! ### modes: shared; borrowed (stands at the entry, is read); read (an owned one, read); owned -/
inductive Mode where | sh | bo | rd | ow
  deriving DecidableEq

/-- an owned dict of owned lists -/
def OwnDL (K : PySem.W.Frag) (Γ : CM) (S H : Hp) : List (Key × List D) → List (Key × V) → Prop
  | [], vs => vs = []
  | (k, e) :: ds, vs => ∃ q ws us, vs = (k, .ref q) :: ws ∧ H q = some (.lst us) ∧ e.length ≤ sizeLine ∧ RepL K Γ S e us ∧ OwnDL K Γ S H ds ws
/-- a list or dict at p, its parts shared -/
def TopL (K : PySem.W.Frag) (Γ : CM) (S H : Hp) (p : Addr) : D → Prop
  | .lst ds => ∃ vs, H p = some (.lst vs) ∧ ds.length ≤ sizeLine ∧ RepL K Γ S ds vs
  | .dicK ds => ∃ vs, H p = some (.dK vs) ∧ RepK K Γ S ds vs
  | .dicT ds => ∃ vs, H p = some (.dT vs) ∧ RepT K Γ S ds vs
  | _ => False
def OwnF (K : PySem.W.Frag) (Γ : CM) (S H : Hp) : Ow → D → V → Prop
  | .sh, d, v => Rep K Γ S d v
  | .top, d, v => ∃ p, v = .ref p ∧ TopL K Γ S H p d
  | .dl, d, v => ∃ p kds vs, v = .ref p ∧ d = .nst true kds ∧ H p = some (.dK vs) ∧ kds.length ≤ sizeLine ∧ OwnDL K Γ S H kds vs
def OwnFs (K : PySem.W.Frag) (Γ : CM) (S H : Hp) (mu : Str → Ow) : List (Str × D) → List (Str × V) → Prop
  | [], vs => vs = []
  | (k, d) :: ds, vs => ∃ v ws, vs = (k, v) :: ws ∧ OwnF K Γ S H (mu k) d v ∧ OwnFs K Γ S H mu ds ws
def refV : V → List Addr
  | .ref p => [p]
  | _ => []
def refsD : Option HO → List Addr
  | some (.dK vs) => vs.flatMap fun kv => refV kv.2
  | some (.lst vs) => vs.flatMap refV
  | _ => []
def footF (H : Hp) : Ow → V → List Addr
  | .sh, _ => []
  | .top, v => refV v
  | .dl, v => refV v ++ (refV v).flatMap fun p => refsD (H p)
def footFs (H : Hp) (mu : Str → Ow) (vs : List (Str × V)) : List Addr := vs.flatMap fun kv => footF H (mu kv.1) kv.2
def footI (Γ : CM) (H : Hp) (c : Str) : Option HO → List Addr
  | some (.ins _ _ vs) => footFs H (Γ.mu c) vs
  | _ => []
/-- the addresses that an owned datum at a holds -/
def foot (Γ : CM) (H : Hp) (a : Addr) : D → List Addr
  | .ins c _ => a :: footI Γ H c (H a)
  | .nst _ _ => a :: refsD (H a)
  | _ => [a]
theorem refsD_nst {b : Bool} {vs : List (Key × V)} : refsD (some (nstO b vs)) = vs.flatMap fun kv => refV kv.2 := by
  cases b with
  | true => rfl
  | false => show (vs.map (·.2)).flatMap refV = _; rw [List.flatMap_map]
theorem nstO_tup {b : Bool} {vs : List (Key × V)} : isTupO (nstO b vs) = false := by cases b <;> rfl
theorem self_foot {Γ : CM} {H : Hp} {a : Addr} {d : D} : a ∈ foot Γ H a d := by cases d <;> exact List.mem_cons_self
/-- an owned value is new -/
def Fresh (Γ : CM) (H H' : Hp) (v : V) (d : D) : Prop := ∀ a, v = .ref a → ∀ p ∈ foot Γ H' a d, H p = none
/-- a changeable datum at a, its parts shared (an instance: or its own) -/
def TopAt (K : PySem.W.Frag) (Γ : CM) (S H : Hp) (a : Addr) : D → Prop
  | .lst ds => ∃ vs, H a = some (.lst vs) ∧ ds.length ≤ sizeLine ∧ RepL K Γ S ds vs
  | .dicK ds => ∃ vs, H a = some (.dK vs) ∧ RepK K Γ S ds vs
  | .dicT ds => ∃ vs, H a = some (.dT vs) ∧ RepT K Γ S ds vs
  | .slf b c ds => ∃ C dx vs, H a = some (.ins C dx vs) ∧ iM Γ c = some C ∧ RepF K Γ S ds vs ∧ a = b
  | .ins c ds => ∃ C dx vs, H a = some (.ins C dx vs) ∧ iM Γ c = some C ∧ OwnFs K Γ S H (Γ.mu c) ds vs ∧ (a :: footFs H (Γ.mu c) vs).Nodup
  | .nst b kvs => ∃ vs, H a = some (nstO b vs) ∧ kvs.length ≤ sizeLine ∧ OwnDL K Γ S H kvs vs ∧ (a :: vs.flatMap fun kv => refV kv.2).Nodup
  | _ => False
def RepM (K : PySem.W.Frag) (Γ : CM) (H0 S H : Hp) : Mode → D → V → Prop
  | .sh, d, v => Rep K Γ S d v
  | .bo, d, v => Rep K Γ S d v ∨ ∃ a, v = .ref a ∧ TopAt K Γ S H0 a d
  | .rd, d, v => Rep K Γ S d v ∨ ∃ a, v = .ref a ∧ TopAt K Γ S H a d
  | .ow, d, v => ∃ a, v = .ref a ∧ (∀ p ∈ foot Γ H a d, S p = none) ∧ TopAt K Γ S H a d
section
variable {K : PySem.W.Frag} {Γ : CM} {H0 S H S' H' : Hp} {a : Addr} {d : D} {v : V} {m : Mode}
theorem OwnDL.same (s : Same S S') : ∀ {ds : List (Key × List D)} {vs : List (Key × V)}, (∀ q ∈ vs.flatMap fun kv => refV kv.2, ∀ o, H q = some o → H' q = some o) → OwnDL K Γ S H ds vs → OwnDL K Γ S' H' ds vs
  | [], _, _, h => h
  | (k, e) :: ds, _, g, ⟨q, ws, us, e1, e3, l, r, t⟩ => by
    subst e1
    have g' : ∀ p ∈ (q :: ws.flatMap fun kv => refV kv.2), ∀ o, H p = some o → H' p = some o := by rw [List.flatMap_cons] at g; exact g
    exact ⟨q, ws, us, rfl, g' _ List.mem_cons_self _ e3, l, r.mono s, OwnDL.same s (fun p hp => g' p (List.mem_cons_of_mem _ hp)) t⟩
theorem TopL.same {p : Addr} (s : Same S S') (g : ∀ o, H p = some o → H' p = some o) (t : TopL K Γ S H p d) : TopL K Γ S' H' p d := by
  cases d with
  | lst ds => obtain ⟨vs, e, n, r⟩ := t; exact ⟨vs, g _ e, n, r.mono s⟩
  | dicK ds => obtain ⟨vs, e, r⟩ := t; exact ⟨vs, g _ e, r.mono s⟩
  | dicT ds => obtain ⟨vs, e, r⟩ := t; exact ⟨vs, g _ e, r.mono s⟩
  | _ => exact t.elim
theorem OwnF.same {k : Ow} (s : Same S S') (g : ∀ q ∈ footF H k v, ∀ o, H q = some o → H' q = some o) (t : OwnF K Γ S H k d v) : OwnF K Γ S' H' k d v ∧ footF H' k v = footF H k v := by
  cases k with
  | sh => exact ⟨Rep.mono s t, rfl⟩
  | top =>
    obtain ⟨p, rfl, t⟩ := t
    exact ⟨⟨p, rfl, t.same s (g p List.mem_cons_self)⟩, rfl⟩
  | dl =>
    obtain ⟨p, kds, vs, rfl, rfl, e, ln, t⟩ := t
    have ef : footF H .dl (.ref p) = p :: (vs.flatMap fun kv => refV kv.2) := by
      show [p] ++ ([p].flatMap fun p => refsD (H p)) = _
      rw [List.flatMap_cons, List.flatMap_nil, List.append_nil, e]; rfl
    have e' := g p (by rw [ef]; exact List.mem_cons_self) _ e
    have ef' : footF H' .dl (.ref p) = p :: (vs.flatMap fun kv => refV kv.2) := by
      show [p] ++ ([p].flatMap fun p => refsD (H' p)) = _
      rw [List.flatMap_cons, List.flatMap_nil, List.append_nil, e']; rfl
    exact ⟨⟨p, kds, vs, rfl, rfl, e', ln, t.same s fun q hq => g q (by rw [ef]; exact List.mem_cons_of_mem _ hq)⟩, by rw [ef, ef']⟩
theorem OwnFs.same {mu : Str → Ow} (s : Same S S') : ∀ {ds : List (Str × D)} {vs : List (Str × V)}, (∀ q ∈ footFs H mu vs, ∀ o, H q = some o → H' q = some o) → OwnFs K Γ S H mu ds vs → OwnFs K Γ S' H' mu ds vs ∧ footFs H' mu vs = footFs H mu vs
  | [], vs, _, h => by cases (show vs = [] from h); exact ⟨rfl, rfl⟩
  | (k, d) :: ds, _, g, ⟨v, ws, e, f, t⟩ => by
    subst e
    have g' : ∀ q ∈ footF H (mu k) v ++ footFs H mu ws, ∀ o, H q = some o → H' q = some o := g
    obtain ⟨f1, f2⟩ := f.same s fun q hq => g' q (List.mem_append_left _ hq)
    obtain ⟨t1, t2⟩ := OwnFs.same s (fun q hq => g' q (List.mem_append_right _ hq)) t
    exact ⟨⟨v, ws, rfl, f1, t1⟩, by show footF H' (mu k) v ++ footFs H' mu ws = footF H (mu k) v ++ footFs H mu ws; rw [f2, t2]⟩
theorem OwnDL.there : ∀ {ds : List (Key × List D)} {vs : List (Key × V)}, OwnDL K Γ S H ds vs → ∀ q ∈ vs.flatMap (fun kv => refV kv.2), ∃ o, H q = some o ∧ isTupO o = false
  | [], vs, h, q, hq => by cases (show vs = [] from h); cases hq
  | (k, e) :: ds, _, ⟨p, ws, us, e1, e3, l, r, t⟩, q, hq => by
    subst e1
    have hq : q ∈ p :: ws.flatMap fun kv => refV kv.2 := hq
    rcases List.mem_cons.mp hq with rfl | hq
    · exact ⟨_, e3, rfl⟩
    · exact OwnDL.there t q hq
theorem TopL.there {p : Addr} (t : TopL K Γ S H p d) : ∃ o, H p = some o ∧ isTupO o = false := by
  cases d with
  | lst ds => obtain ⟨vs, e, _⟩ := t; exact ⟨_, e, rfl⟩
  | dicK ds => obtain ⟨vs, e, _⟩ := t; exact ⟨_, e, rfl⟩
  | dicT ds => obtain ⟨vs, e, _⟩ := t; exact ⟨_, e, rfl⟩
  | _ => exact t.elim
theorem OwnF.there {k : Ow} (t : OwnF K Γ S H k d v) : ∀ q ∈ footF H k v, ∃ o, H q = some o ∧ isTupO o = false := by
  cases k with
  | sh => intro q hq; cases hq
  | top =>
    obtain ⟨p, rfl, t⟩ := t
    intro q hq
    rw [List.mem_singleton.mp (show q ∈ [p] from hq)]; exact t.there
  | dl =>
    obtain ⟨p, kds, vs, rfl, rfl, e, ln, t⟩ := t
    intro q hq
    have ef : footF H .dl (.ref p) = p :: (vs.flatMap fun kv => refV kv.2) := by
      show [p] ++ ([p].flatMap fun p => refsD (H p)) = _
      rw [List.flatMap_cons, List.flatMap_nil, List.append_nil, e]; rfl
    rw [ef] at hq
    rcases List.mem_cons.mp hq with rfl | hq
    · exact ⟨_, e, rfl⟩
    · exact t.there q hq
theorem OwnFs.there {mu : Str → Ow} : ∀ {ds : List (Str × D)} {vs : List (Str × V)}, OwnFs K Γ S H mu ds vs → ∀ q ∈ footFs H mu vs, ∃ o, H q = some o ∧ isTupO o = false
  | [], vs, h, q, hq => by cases (show vs = [] from h); cases hq
  | (k, d) :: ds, _, ⟨v, ws, e, f, t⟩, q, hq => by
    subst e
    have hq : q ∈ footF H (mu k) v ++ footFs H mu ws := hq
    rcases List.mem_append.mp hq with hq | hq
    · exact f.there q hq
    · exact OwnFs.there t q hq
/-- every address of its foot stands -/
theorem TopAt.all (t : TopAt K Γ S H a d) : ∀ p ∈ foot Γ H a d, ∃ o, H p = some o ∧ isTupO o = false := by
  intro p hp
  cases d with
  | lst ds => obtain ⟨vs, e, _⟩ := t; rw [List.mem_singleton.mp (show p ∈ [a] from hp)]; exact ⟨_, e, rfl⟩
  | dicK ds => obtain ⟨vs, e, _⟩ := t; rw [List.mem_singleton.mp (show p ∈ [a] from hp)]; exact ⟨_, e, rfl⟩
  | dicT ds => obtain ⟨vs, e, _⟩ := t; rw [List.mem_singleton.mp (show p ∈ [a] from hp)]; exact ⟨_, e, rfl⟩
  | slf b c ds => obtain ⟨C, dx, vs, e, _⟩ := t; rw [List.mem_singleton.mp (show p ∈ [a] from hp)]; exact ⟨_, e, rfl⟩
  | ins c ds =>
    obtain ⟨C, dx, vs, e, g, o, n⟩ := t
    have hp : p ∈ a :: footI Γ H c (H a) := hp
    rw [e] at hp
    rcases List.mem_cons.mp hp with rfl | hp
    · exact ⟨_, e, rfl⟩
    · exact o.there p hp
  | nst b kvs =>
    obtain ⟨vs, e, l, o, n⟩ := t
    have hp : p ∈ a :: refsD (H a) := hp
    rw [e, refsD_nst] at hp
    rcases List.mem_cons.mp hp with rfl | hp
    · exact ⟨_, e, nstO_tup⟩
    · exact o.there p hp
  | _ => exact t.elim
theorem TopAt.there2 (t : TopAt K Γ S H a d) : ∃ o, H a = some o ∧ isTupO o = false := t.all a self_foot
theorem TopAt.there (t : TopAt K Γ S H a d) : ∃ o, H a = some o := let ⟨o, e, _⟩ := t.there2; ⟨o, e⟩
/-- where its foot stays, it stays -/
theorem TopAt.same (s : Same S S') (g : ∀ p ∈ foot Γ H a d, ∀ o, H p = some o → H' p = some o) (t : TopAt K Γ S H a d) : TopAt K Γ S' H' a d ∧ foot Γ H' a d = foot Γ H a d := by
  have ga := g a self_foot
  cases d with
  | lst ds => obtain ⟨vs, e, n, r⟩ := t; exact ⟨⟨vs, ga _ e, n, r.mono s⟩, rfl⟩
  | dicK ds => obtain ⟨vs, e, r⟩ := t; exact ⟨⟨vs, ga _ e, r.mono s⟩, rfl⟩
  | dicT ds => obtain ⟨vs, e, r⟩ := t; exact ⟨⟨vs, ga _ e, r.mono s⟩, rfl⟩
  | slf b c ds => obtain ⟨C, dx, vs, e, g, r, q⟩ := t; exact ⟨⟨C, dx, vs, ga _ e, g, r.mono s, q⟩, rfl⟩
  | ins c ds =>
    obtain ⟨C, dx, vs, e, gm, o, n⟩ := t
    have g2 : ∀ q ∈ footFs H (Γ.mu c) vs, ∀ o, H q = some o → H' q = some o := fun q hq => g q (by
      show q ∈ a :: footI Γ H c (H a)
      rw [e]; exact List.mem_cons_of_mem _ hq)
    obtain ⟨o1, o2⟩ := o.same s g2
    refine ⟨⟨C, dx, vs, ga _ e, gm, o1, by rw [o2]; exact n⟩, ?_⟩
    show a :: footI Γ H' c (H' a) = a :: footI Γ H c (H a)
    rw [e, ga _ e]
    show a :: footFs H' (Γ.mu c) vs = a :: footFs H (Γ.mu c) vs
    rw [o2]
  | nst b kvs =>
    obtain ⟨vs, e, l, o, n⟩ := t
    have g2 : ∀ q ∈ vs.flatMap (fun kv => refV kv.2), ∀ o, H q = some o → H' q = some o := fun q hq => g q (by
      show q ∈ a :: refsD (H a)
      rw [e, refsD_nst]; exact List.mem_cons_of_mem _ hq)
    refine ⟨⟨vs, ga _ e, l, o.same s g2, n⟩, ?_⟩
    show a :: refsD (H' a) = a :: refsD (H a)
    rw [e, ga _ e]
  | _ => exact t.elim
theorem TopAt.mono (s : Same S S') (h : ∀ p o, H p = some o → H' p = some o) (t : TopAt K Γ S H a d) : TopAt K Γ S' H' a d := (t.same s fun p _ => h p).1
theorem RepM.mono (e : Ext S H S' H') (r : RepM K Γ H0 S H m d v) : RepM K Γ H0 S' H' m d v := by
  cases m with
  | sh => exact Rep.mono e.ss r
  | bo =>
    rcases r with r | ⟨a, ev, t⟩
    · exact .inl (Rep.mono e.ss r)
    · exact .inr ⟨a, ev, t.mono e.ss fun _ _ q => q⟩
  | rd =>
    rcases r with r | ⟨a, ev, t⟩
    · exact .inl (Rep.mono e.ss r)
    · exact .inr ⟨a, ev, t.mono e.ss fun _ _ q => e.hh _ _ q⟩
  | ow =>
    obtain ⟨a, ev, n, t⟩ := r
    obtain ⟨t1, t2⟩ := t.same e.ss fun p _ o q => e.hh p o q
    refine ⟨a, ev, fun p hp => ?_, t1⟩
    rw [t2] at hp
    obtain ⟨o, ho, ht⟩ := t.all p hp
    exact e.fr p o ho ht (n p hp)
/-! sharing what is owned -/
theorem OwnDL.share {F : List Addr} (s1 : Same S S') : ∀ {ds : List (Key × List D)} {vs : List (Key × V)}, (∀ q ∈ vs.flatMap (fun kv => refV kv.2), ∀ o, H q = some o → S' q = some o) → OwnDL K Γ S H ds vs → RepN K Γ S' ds vs
  | [], _, _, h => h
  | (k, e) :: ds, _, g, ⟨q, ws, us, e1, e3, l, r, t⟩ => by
    subst e1
    have g' : ∀ p ∈ (q :: ws.flatMap fun kv => refV kv.2), ∀ o, H p = some o → S' p = some o := g
    exact ⟨q, us, ws, rfl, g' _ List.mem_cons_self _ e3, l, r.mono s1, OwnDL.share (F := F) s1 (fun p hp => g' p (List.mem_cons_of_mem _ hp)) t⟩
theorem TopL.share {p : Addr} (s1 : Same S S') (g : ∀ o, H p = some o → S' p = some o) (t : TopL K Γ S H p d) : Rep K Γ S' d (.ref p) := by
  cases d with
  | lst ds => obtain ⟨vs, e, l, r⟩ := t; exact ⟨p, vs, rfl, g _ e, l, r.mono s1⟩
  | dicK ds => obtain ⟨vs, e, r⟩ := t; exact ⟨p, vs, rfl, g _ e, r.mono s1⟩
  | dicT ds => obtain ⟨vs, e, r⟩ := t; exact ⟨p, vs, rfl, g _ e, r.mono s1⟩
  | _ => exact t.elim
theorem OwnF.share {k : Ow} (s1 : Same S S') (g : ∀ q ∈ footF H k v, ∀ o, H q = some o → S' q = some o) (t : OwnF K Γ S H k d v) : Rep K Γ S' d v := by
  cases k with
  | sh => exact Rep.mono s1 t
  | top =>
    obtain ⟨p, rfl, t⟩ := t
    exact t.share s1 (g p List.mem_cons_self)
  | dl =>
    obtain ⟨p, kds, vs, rfl, rfl, e, ln, t⟩ := t
    have ef : footF H .dl (.ref p) = p :: (vs.flatMap fun kv => refV kv.2) := by
      show [p] ++ ([p].flatMap fun p => refsD (H p)) = _
      rw [List.flatMap_cons, List.flatMap_nil, List.append_nil, e]; rfl
    rw [ef] at g
    exact ⟨p, vs, rfl, g p List.mem_cons_self _ e, ln, t.share (F := []) s1 fun q hq => g q (List.mem_cons_of_mem _ hq)⟩
theorem OwnFs.share {mu : Str → Ow} (s1 : Same S S') : ∀ {ds : List (Str × D)} {vs : List (Str × V)}, (∀ q ∈ footFs H mu vs, ∀ o, H q = some o → S' q = some o) → OwnFs K Γ S H mu ds vs → RepF K Γ S' ds vs
  | [], _, _, h => h
  | (k, d) :: ds, _, g, ⟨v, ws, e, f, t⟩ => by
    subst e
    have g' : ∀ q ∈ footF H (mu k) v ++ footFs H mu ws, ∀ o, H q = some o → S' q = some o := g
    exact ⟨v, ws, rfl, f.share s1 fun q hq => g' q (List.mem_append_left _ hq), OwnFs.share s1 (fun q hq => g' q (List.mem_append_right _ hq)) t⟩
/-- an owned datum at a becomes shared -/
theorem TopAt.share (s : Same S H) (n : ∀ p ∈ foot Γ H a d, S p = none) (t : TopAt K Γ S H a d) : ∃ S', Same S S' ∧ Same S' H ∧ Rep K Γ S' d (.ref a) ∧ ∀ b, b ∉ foot Γ H a d → S' b = S b := by
  classical
  let S' : Hp := fun b => if b ∈ foot Γ H a d then H b else S b
  have hin : ∀ b ∈ foot Γ H a d, S' b = H b := fun b hb => if_pos hb
  have hout : ∀ b, b ∉ foot Γ H a d → S' b = S b := fun b hb => if_neg hb
  have s1 : Same S S' := fun b x e => by
    by_cases q : b ∈ foot Γ H a d
    · rw [n b q] at e; cases e
    · rw [hout b q]; exact e
  have s2 : Same S' H := fun b x e => by
    by_cases q : b ∈ foot Γ H a d
    · rw [hin b q] at e; exact e
    · rw [hout b q] at e; exact s b x e
  have ga : ∀ o, H a = some o → S' a = some o := fun o e => by rw [hin a self_foot]; exact e
  refine ⟨S', s1, s2, ?_, hout⟩
  cases d with
  | lst ds => obtain ⟨vs, e, l, r⟩ := t; exact ⟨a, vs, rfl, ga _ e, l, r.mono s1⟩
  | dicK ds => obtain ⟨vs, e, r⟩ := t; exact ⟨a, vs, rfl, ga _ e, r.mono s1⟩
  | dicT ds => obtain ⟨vs, e, r⟩ := t; exact ⟨a, vs, rfl, ga _ e, r.mono s1⟩
  | slf b c ds => obtain ⟨C, dx, vs, e, g, r, q⟩ := t; exact ⟨a, C, dx, vs, rfl, g, ga _ e, r.mono s1, q⟩
  | ins c ds =>
    obtain ⟨C, dx, vs, e, g, o, nd⟩ := t
    refine ⟨a, C, dx, vs, rfl, g, ga _ e, o.share s1 fun q hq o ho => ?_⟩
    rw [hin q (by show q ∈ a :: footI Γ H c (H a); rw [e]; exact List.mem_cons_of_mem _ hq)]; exact ho
  | nst b kvs =>
    obtain ⟨vs, e, l, o, nd⟩ := t
    refine ⟨a, vs, rfl, ga _ e, l, o.share (F := []) s1 fun q hq o ho => ?_⟩
    rw [hin q (by show q ∈ a :: refsD (H a); rw [e, refsD_nst]; exact List.mem_cons_of_mem _ hq)]; exact ho
  | _ => exact t.elim
/-- whatever the mode is, it may be read -/
theorem RepM.rd (hs : Same H0 H) (r : RepM K Γ H0 S H m d v) : RepM K Γ H0 S H .rd d v := by
  cases m with
  | sh => exact .inl r
  | bo =>
    rcases r with r | ⟨a, ev, t⟩
    · exact .inl r
    · exact .inr ⟨a, ev, t.mono (Same.refl _) fun _ _ q => hs _ _ q⟩
  | rd => exact r
  | ow => obtain ⟨a, ev, n, t⟩ := r; exact .inr ⟨a, ev, t⟩
end

/-! ### environments -/
abbrev Env := List (Option D)
abbrev Ev := Env → Option D
def md (M : List Mode) (i : Nat) : Mode := M.getD i .sh
structure Wd (K : PySem.W.Frag) (Γ : CM) (S0 H0 S H : Hp) (σ : St) (M : List Mode) (δ : Env) : Prop where
  ext : Ext S0 H0 S H
  len : σ.length = δ.length
  slot : ∀ i d, δ[i]? = some (some d) → ∃ v, σ[i]? = some (some v) ∧ RepM K Γ H0 S H (md M i) d v
  own : ∀ i d a, δ[i]? = some (some d) → md M i = .ow → σ[i]? = some (some (.ref a)) → ∀ p ∈ foot Γ H a d, H0 p = none
  uniq : ∀ i j di dj a b p, δ[i]? = some (some di) → δ[j]? = some (some dj) → md M i = .ow → md M j = .ow → σ[i]? = some (some (.ref a)) → σ[j]? = some (some (.ref b)) → p ∈ foot Γ H a di → p ∈ foot Γ H b dj → i = j
  nord : ∀ i, md M i ≠ .rd
section
variable {K : PySem.W.Frag} {Γ : CM} {S0 H0 S H S' H' : Hp} {σ : St} {M : List Mode} {δ : Env} {d : D}
/-- what stands in an owned slot -/
theorem Wd.owned {i : Nat} {d : D} (w : Wd K Γ S0 H0 S H σ M δ) (hM : md M i = .ow) (h : δ[i]? = some (some d)) : ∃ a, σ[i]? = some (some (.ref a)) ∧ (∀ p ∈ foot Γ H a d, S p = none) ∧ TopAt K Γ S H a d := by
  obtain ⟨v, hv, r⟩ := w.slot i d h
  rw [hM] at r
  obtain ⟨a, ev, n, t⟩ := r
  subst ev
  exact ⟨a, hv, n, t⟩
theorem Wd.top {i : Nat} {d : D} {a : Addr} (w : Wd K Γ S0 H0 S H σ M δ) (hM : md M i = .ow) (h : δ[i]? = some (some d)) (hs : σ[i]? = some (some (.ref a))) : (∀ p ∈ foot Γ H a d, S p = none) ∧ TopAt K Γ S H a d := by
  obtain ⟨b, hb, n, t⟩ := w.owned hM h
  have e : V.ref b = V.ref a := Option.some.inj (Option.some.inj (hb.symm.trans hs))
  cases e
  exact ⟨n, t⟩
theorem Wd.mono (w : Wd K Γ S0 H0 S H σ M δ) (e : Ext S H S' H') : Wd K Γ S0 H0 S' H' σ M δ := by
  have ff : ∀ i d a, δ[i]? = some (some d) → md M i = .ow → σ[i]? = some (some (.ref a)) → foot Γ H' a d = foot Γ H a d := fun i d a h m s => ((w.top m h s).2.same e.ss fun p _ o q => e.hh p o q).2
  refine ⟨w.ext.trans e, w.len, fun i d h => let ⟨v, q, r⟩ := w.slot i d h; ⟨v, q, r.mono e⟩, fun i d a h m s p hp => ?_, fun i j di dj a b p h1 h2 m1 m2 s1 s2 p1 p2 => ?_, w.nord⟩
  · rw [ff i d a h m s] at hp; exact w.own i d a h m s p hp
  · rw [ff i di a h1 m1 s1] at p1
    rw [ff j dj b h2 m2 s2] at p2
    exact w.uniq i j di dj a b p h1 h2 m1 m2 s1 s2 p1 p2
theorem Wd.sH (w : Wd K Γ S0 H0 S H σ M δ) : Same S H := w.ext.sh
theorem Wd.h0 (w : Wd K Γ S0 H0 S H σ M δ) : Same H0 H := w.ext.hh
theorem getElem?_set {α : Type} {l : List α} {i j : Nat} {x y : α} (h : (l.set i x)[j]? = some y) : (i = j ∧ x = y ∧ i < l.length) ∨ (i ≠ j ∧ l[j]? = some y) := by
  by_cases q : i = j
  · subst q
    by_cases p : i < l.length
    · rw [List.getElem?_set_self p] at h
      exact .inl ⟨rfl, Option.some.inj h, p⟩
    · rw [List.getElem?_eq_none (by rw [List.length_set]; omega)] at h
      cases h
  · rw [List.getElem?_set_ne q] at h
    exact .inr ⟨q, h⟩
theorem md_set {M : List Mode} {i j : Nat} {m : Mode} (h : i < M.length) : md (M.set i m) j = if i = j then m else md M j := by
  unfold md
  rw [List.getD_eq_getElem?_getD, List.getD_eq_getElem?_getD]
  by_cases q : i = j
  · subst q
    rw [List.getElem?_set_self h, if_pos rfl]
    rfl
  · rw [List.getElem?_set_ne q, if_neg q]
/-- a slot is stored -/
theorem Wd.store {i : Nat} {m : Mode} {d : D} {v : V} (w : Wd K Γ S0 H0 S H σ M δ) (hi : i < M.length) (hm : m = .sh ∨ m = .bo ∨ m = .ow) (r : RepM K Γ H0 S H m d v)
    (f0 : m = .ow → ∀ a, v = .ref a → ∀ p ∈ foot Γ H a d, H0 p = none) (f1 : m = .ow → ∀ a, v = .ref a → ∀ j dj b, δ[j]? = some (some dj) → md M j = .ow → σ[j]? = some (some (.ref b)) → ∀ p ∈ foot Γ H a d, p ∉ foot Γ H b dj) :
    Wd K Γ S0 H0 S H (σ.set i (some v)) (M.set i m) (δ.set i (some d)) := by
  have key : ∀ j dj, (δ.set i (some d))[j]? = some (some dj) → (i = j ∧ d = dj ∧ i < δ.length) ∨ (i ≠ j ∧ δ[j]? = some (some dj)) := fun j dj h => by
    rcases getElem?_set h with ⟨a, b, c⟩ | h
    · exact .inl ⟨a, Option.some.inj b, c⟩
    · exact .inr h
  refine ⟨w.ext, by rw [List.length_set, List.length_set, w.len], fun j dj h => ?_, fun j dj a h hm2 hs p hp => ?_, fun j k dj dk a b p h1 h2 m1 m2 s1 s2 p1 p2 => ?_, fun j z => ?_⟩
  · rw [md_set hi]
    rcases key j dj h with ⟨e, e2, l⟩ | ⟨ne, h⟩
    · subst e e2
      rw [if_pos rfl]
      exact ⟨v, List.getElem?_set_self (by rw [w.len]; exact l), r⟩
    · rw [if_neg ne, List.getElem?_set_ne ne]
      exact w.slot j dj h
  · rw [md_set hi] at hm2
    rcases key j dj h with ⟨e, e2, l⟩ | ⟨ne, h⟩
    · subst e e2
      rw [if_pos rfl] at hm2
      rw [List.getElem?_set_self (by rw [w.len]; exact l)] at hs
      exact f0 hm2 a (Option.some.inj (Option.some.inj hs)) p hp
    · rw [if_neg ne] at hm2
      rw [List.getElem?_set_ne ne] at hs
      exact w.own j dj a h hm2 hs p hp
  · rw [md_set hi] at m1 m2
    rcases key j dj h1 with ⟨e, e2, l⟩ | ⟨ne, h1⟩
    · subst e e2
      rcases key k dk h2 with ⟨e, e2, l2⟩ | ⟨ne, h2⟩
      · exact e
      · rw [if_pos rfl] at m1
        rw [if_neg ne] at m2
        rw [List.getElem?_set_self (by rw [w.len]; exact l)] at s1
        rw [List.getElem?_set_ne ne] at s2
        exact absurd p2 (f1 m1 a (Option.some.inj (Option.some.inj s1)) k dk b h2 m2 s2 p p1)
    · rcases key k dk h2 with ⟨e, e2, l2⟩ | ⟨ne2, h2⟩
      · subst e e2
        rw [if_pos rfl] at m2
        rw [if_neg ne] at m1
        rw [List.getElem?_set_self (by rw [w.len]; exact l2)] at s2
        rw [List.getElem?_set_ne ne] at s1
        exact absurd p1 (f1 m2 b (Option.some.inj (Option.some.inj s2)) j dj a h1 m1 s1 p p2)
      · rw [if_neg ne] at m1
        rw [if_neg ne2] at m2
        rw [List.getElem?_set_ne ne] at s1
        rw [List.getElem?_set_ne ne2] at s2
        exact w.uniq j k dj dk a b p h1 h2 m1 m2 s1 s2 p1 p2
  · rw [md_set hi] at z
    by_cases q : i = j
    · rw [if_pos q] at z
      rcases hm with e | e | e <;> rw [e] at z <;> cases z
    · rw [if_neg q] at z
      exact w.nord j z
/-- what is new lies in no slot -/
theorem Wd.apart {j : Nat} {dj : D} {b : Addr} (w : Wd K Γ S0 H0 S H σ M δ) (h : δ[j]? = some (some dj)) (m : md M j = .ow) (s : σ[j]? = some (some (.ref b))) {p : Addr} (n : H p = none) : p ∉ foot Γ H b dj := fun z => by
  obtain ⟨o, ho, _⟩ := (w.top m h s).2.all p z
  rw [n] at ho; cases ho
/-- an owned slot becomes shared -/
theorem Wd.freeze {i : Nat} (w : Wd K Γ S0 H0 S H σ M δ) (hi : i < M.length) (hm : md M i = .ow) : ∃ S', Same S S' ∧ Wd K Γ S0 H0 S' H σ (M.set i .sh) δ := by
  have nr : ∀ j, md (M.set i .sh) j ≠ .rd := fun j z => by
    rw [md_set hi] at z
    by_cases q : i = j
    · rw [if_pos q] at z; cases z
    · rw [if_neg q] at z; exact w.nord j z
  have oth : ∀ j, md (M.set i .sh) j = .ow → i ≠ j ∧ md M j = .ow := fun j z => by
    rw [md_set hi] at z
    by_cases q : i = j
    · rw [if_pos q] at z; cases z
    · rw [if_neg q] at z; exact ⟨q, z⟩
  by_cases hd : ∃ d, δ[i]? = some (some d)
  · obtain ⟨d, q⟩ := hd
    obtain ⟨a, hv, n, t⟩ := w.owned hm q
    have h0 := w.own i d a q hm hv
    obtain ⟨S', ss, sh, r, off⟩ := t.share w.sH n
    have ext : Ext S0 H0 S' H := ⟨w.ext.ss.trans ss, w.ext.hh, sh, fun b o hb tt nb => by
      have nba : b ∉ foot Γ H a d := fun e => by rw [h0 b e] at hb; cases hb
      rw [off b nba]; exact w.ext.fr b o hb tt nb⟩
    refine ⟨S', ss, ext, w.len, fun j dj h => ?_, fun j dj b h m s => w.own j dj b h (oth j m).2 s, fun j k dj dk b c p h1 h2 m1 m2 s1 s2 p1 p2 => w.uniq j k dj dk b c p h1 h2 (oth j m1).2 (oth k m2).2 s1 s2 p1 p2, nr⟩
    by_cases ne : i = j
    · subst ne
      rw [q] at h
      have e : d = dj := Option.some.inj (Option.some.inj h)
      subst e
      rw [md_set hi, if_pos rfl]
      exact ⟨_, hv, r⟩
    · rw [md_set hi, if_neg ne]
      obtain ⟨u, hu, ru⟩ := w.slot j dj h
      refine ⟨u, hu, ?_⟩
      cases em : md M j with
      | sh => rw [em] at ru; exact Rep.mono ss ru
      | bo =>
        rw [em] at ru
        rcases ru with ru | ⟨b, eb, tb⟩
        · exact .inl (Rep.mono ss ru)
        · exact .inr ⟨b, eb, tb.mono ss fun _ _ z => z⟩
      | rd => exact (w.nord j em).elim
      | ow =>
        rw [em] at ru
        obtain ⟨b, eb, nb, tb⟩ := ru
        subst eb
        refine ⟨b, rfl, fun p hp => ?_, tb.mono ss fun _ _ z => z⟩
        have nba : p ∉ foot Γ H a d := fun e => ne (w.uniq i j d dj a b p q h hm em hv hu e hp)
        exact (off p nba).trans (nb p hp)
  · have none_i : ∀ j dj, δ[j]? = some (some dj) → i ≠ j := fun j dj h e => hd ⟨dj, e ▸ h⟩
    refine ⟨S, Same.refl _, w.ext, w.len, fun j dj h => ?_, fun j dj b h m s => w.own j dj b h (oth j m).2 s, fun j k dj dk b c p h1 h2 m1 m2 s1 s2 p1 p2 => w.uniq j k dj dk b c p h1 h2 (oth j m1).2 (oth k m2).2 s1 s2 p1 p2, nr⟩
    rw [md_set hi, if_neg (none_i j dj h)]; exact w.slot j dj h
/-- the owned slots of I change: the heap within their feet, their data -/
theorem Wd.change {I : Nat → Prop} {S' H' : Hp} {δ' : Env} (w : Wd K Γ S0 H0 S H σ M δ) (ss : Same S S') (sh : Same S' H') (hI : ∀ i, I i → md M i = .ow)
    (hh : ∀ p o, H p = some o → (∀ i d a, I i → δ[i]? = some (some d) → σ[i]? = some (some (.ref a)) → p ∉ foot Γ H a d) → H' p = some o)
    (fr : ∀ p o, H p = some o → isTupO o = false → S p = none → (∀ i d a, I i → δ[i]? = some (some d) → σ[i]? = some (some (.ref a)) → p ∉ foot Γ H a d) → S' p = none) (hl : δ'.length = δ.length)
    (he : ∀ j, ¬ I j → δ'[j]? = δ[j]?) (ht : ∀ i d', I i → δ'[i]? = some (some d') → ∃ a, σ[i]? = some (some (.ref a)) ∧ (∃ d, δ[i]? = some (some d)) ∧ TopAt K Γ S' H' a d' ∧ ∀ p ∈ foot Γ H' a d', S' p = none)
    (hn : ∀ i d' a, I i → δ'[i]? = some (some d') → σ[i]? = some (some (.ref a)) → ∀ p ∈ foot Γ H' a d', (∃ j d b, I j ∧ δ[j]? = some (some d) ∧ σ[j]? = some (some (.ref b)) ∧ p ∈ foot Γ H b d) ∨ H p = none)
    (hu : ∀ i j di dj a b p, I i → I j → δ'[i]? = some (some di) → δ'[j]? = some (some dj) → σ[i]? = some (some (.ref a)) → σ[j]? = some (some (.ref b)) → p ∈ foot Γ H' a di → p ∈ foot Γ H' b dj → i = j) :
    Wd K Γ S0 H0 S' H' σ M δ' := by
  classical
  have h0 : Same H0 H' := fun p o e => hh p o (w.ext.hh p o e) fun i d a hi h s z => by
    rw [w.own i d a h (hI i hi) s p z] at e; cases e
  have stay : ∀ j d b, ¬ I j → δ[j]? = some (some d) → md M j = .ow → σ[j]? = some (some (.ref b)) → TopAt K Γ S' H' b d ∧ foot Γ H' b d = foot Γ H b d := fun j d b nj h m s =>
    (w.top m h s).2.same ss fun p hp o e => hh p o e fun i di a hi h2 s2 z => nj ((w.uniq i j di d a b p h2 h (hI i hi) m s2 s z hp) ▸ hi)
  refine ⟨⟨w.ext.ss.trans ss, h0, sh, fun p o e t n => fr p o (w.ext.hh p o e) t (w.ext.fr p o e t n) fun i d a hi h s z => by rw [w.own i d a h (hI i hi) s p z] at e; cases e⟩, w.len.trans hl.symm, fun j d h => ?_, fun j d a h m s p hp => ?_, fun i j di dj a b p h1 h2 m1 m2 s1 s2 p1 p2 => ?_, w.nord⟩
  · by_cases hj : I j
    · obtain ⟨a, ha, _, t, n⟩ := ht j d hj h
      rw [hI j hj]
      exact ⟨_, ha, a, rfl, n, t⟩
    · rw [he j hj] at h
      obtain ⟨v, hv, r⟩ := w.slot j d h
      refine ⟨v, hv, ?_⟩
      cases em : md M j with
      | sh => rw [em] at r; exact Rep.mono ss r
      | bo =>
        rw [em] at r
        rcases r with r | ⟨a, ev, t⟩
        · exact .inl (Rep.mono ss r)
        · exact .inr ⟨a, ev, t.mono ss fun _ _ q => q⟩
      | rd => exact (w.nord j em).elim
      | ow =>
        rw [em] at r
        obtain ⟨b, rfl, n, t⟩ := r
        obtain ⟨t1, t2⟩ := stay j d b hj h em hv
        refine ⟨b, rfl, fun p hp => ?_, t1⟩
        rw [t2] at hp
        obtain ⟨o, ho, hq⟩ := t.all p hp
        exact fr p o ho hq (n p hp) fun i di a hi h2 s2 z => hj ((w.uniq i j di d a b p h2 h (hI i hi) em s2 hv z hp) ▸ hi)
  · by_cases hj : I j
    · rcases hn j d a hj h s p hp with ⟨k, dk, b, hk, h2, s2, z⟩ | z
      · exact w.own k dk b h2 (hI k hk) s2 p z
      · exact w.ext.hh.free z
    · rw [he j hj] at h
      rw [(stay j d a hj h m s).2] at hp
      exact w.own j d a h m s p hp
  · by_cases hi : I i
    · by_cases hj : I j
      · exact hu i j di dj a b p hi hj h1 h2 s1 s2 p1 p2
      · rw [he j hj] at h2
        rw [(stay j dj b hj h2 m2 s2).2] at p2
        rcases hn i di a hi h1 s1 p p1 with ⟨k, dk, c, hk, h3, s3, z⟩ | z
        · exact absurd ((w.uniq k j dk dj c b p h3 h2 (hI k hk) m2 s3 s2 z p2) ▸ hk) hj
        · exact absurd p2 (w.apart h2 m2 s2 z)
    · rw [he i hi] at h1
      rw [(stay i di a hi h1 m1 s1).2] at p1
      by_cases hj : I j
      · rcases hn j dj b hj h2 s2 p p2 with ⟨k, dk, c, hk, h3, s3, z⟩ | z
        · exact absurd ((w.uniq k i dk di c a p h3 h1 (hI k hk) m1 s3 s1 z p1) ▸ hk) hi
        · exact absurd p1 (w.apart h1 m1 s1 z)
      · rw [he j hj] at h2
        rw [(stay j dj b hj h2 m2 s2).2] at p2
        exact w.uniq i j di dj a b p h1 h2 m1 m2 s1 s2 p1 p2
/-- .. one slot -/
theorem Wd.change1 {i : Nat} {a : Addr} {d d' : D} {H' : Hp} (w : Wd K Γ S0 H0 S H σ M δ) (hm : md M i = .ow) (hd : δ[i]? = some (some d)) (hs : σ[i]? = some (some (.ref a)))
    (hh : ∀ p o, H p = some o → p ∉ foot Γ H a d → H' p = some o) (t : TopAt K Γ S H' a d') (hn : ∀ p ∈ foot Γ H' a d', p ∈ foot Γ H a d ∨ H p = none) : Wd K Γ S0 H0 S H' σ M (δ.set i (some d')) := by
  have n := (w.top hm hd hs).1
  have li : i < δ.length := (List.getElem?_eq_some_iff.mp hd).1
  refine w.change (I := fun j => j = i) (Same.refl _) (fun p o e => hh p o (w.sH p o e) fun z => by rw [n p z] at e; cases e) (fun j e => e ▸ hm) (fun p o e z => hh p o e (z i d a rfl hd hs)) (fun _ _ _ _ z _ => z) List.length_set
    (fun j nj => List.getElem?_set_ne fun e => nj e.symm) (fun j dj e h => ?_) (fun j dj b e h s p hp => ?_) (fun j k dj dk b c p e1 e2 _ _ _ _ _ _ => e1.trans e2.symm)
  · subst e
    rw [List.getElem?_set_self li] at h
    cases h
    refine ⟨a, hs, ⟨d, hd⟩, t, fun p hp => ?_⟩
    rcases hn p hp with z | z
    · exact n p z
    · exact w.sH.free z
  · subst e
    rw [List.getElem?_set_self li] at h
    cases h
    have e : V.ref b = V.ref a := Option.some.inj (Option.some.inj (s.symm.trans hs))
    cases e
    rcases hn p hp with z | z
    · exact .inl ⟨j, d, a, rfl, hd, hs, z⟩
    · exact .inr z
/-- an owned slot's datum is changed in its place -/
theorem Wd.write {i : Nat} {a : Addr} {d d' : D} {o : HO} (w : Wd K Γ S0 H0 S H σ M δ) (hm : md M i = .ow) (hd : δ[i]? = some (some d)) (hs : σ[i]? = some (some (.ref a)))
    (t : TopAt K Γ S (upd H a o) a d') (hf : foot Γ (upd H a o) a d' = [a] := by rfl) : Wd K Γ S0 H0 S (upd H a o) σ M (δ.set i (some d')) :=
  w.change1 hm hd hs (fun p o e z => by rw [upd_ne (fun q => by subst q; exact z self_foot)]; exact e) t fun p hp => .inl (by rw [hf] at hp; rw [List.mem_singleton.mp hp]; exact self_foot)
theorem Fresh.one {v : V} (hf : ∀ a, foot Γ H' a d = [a] := by intro _; rfl) (h : ∀ a, v = .ref a → H a = none) : Fresh Γ H H' v d := fun a ev p hp => by
  rw [hf] at hp; rw [List.mem_singleton.mp hp]; exact h a ev
theorem OwnFs.look {mu : Str → Ow} {x : Str} : ∀ {fs : List (Str × D)} {ws : List (Str × V)} {d : D}, OwnFs K Γ S H mu fs ws → fs.lookup x = some d → ∃ v, ws.lookup x = some v ∧ OwnF K Γ S H (mu x) d v
  | [], _, _, _, h => by cases h
  | (n, y) :: fs, _, d, ⟨v, ws, e, r, t⟩, h => by
    subst e
    rw [List.lookup_cons] at h ⊢
    cases q : x == n with
    | true => rw [q] at h; cases h; rw [eq_of_beq q]; exact ⟨v, rfl, r⟩
    | false => rw [q] at h; exact OwnFs.look t h
end
end Dl
/-! the judgements over data, and the rules for expressions. -/
namespace Dl
open PySem L2

/-! ### data, compared -/
mutual
def D.py : D → PyData
  | .non => .none
  | .bl b => .bool b
  | .int i => .int i
  | .str x => .str x
  | .scr ns => .list (ns.map PyData.int)
  | .lst ds => .list (D.pyL ds)
  | .tup ds => .tuple (D.pyL ds)
  | .ktup ds => .tuple (D.pyL ds)
  | .ty _ => .dict []
  | .dicK _ => .dict []
  | .dicT _ => .dict []
  | .ins _ _ => .dict []
  | .slf _ _ _ => .dict []
  | .exc _ _ => .dict []
  | .cls _ => .dict []
  | .nst _ _ => .dict []
def D.pyL : List D → List PyData
  | [] => []
  | d :: ds => d.py :: D.pyL ds
end
theorem D.pyL_map : ∀ ds : List D, D.pyL ds = ds.map D.py
  | [] => rfl
  | d :: ds => by rw [List.map_cons, ← D.pyL_map ds]; rfl
def D.eqv (a b : D) : Bool := PyData.eqv a.py b.py
def cmpOk (a b : D) : Bool := a.py.plain && b.py.plain && decide (min a.py.depth b.py.depth ≤ 60)
def opEq (a b : D) : Option D := if cmpOk a b then some (.bl (D.eqv a b)) else none
def opNe (a b : D) : Option D := if cmpOk a b then some (.bl (!D.eqv a b)) else none
section
variable {K : PySem.W.Frag} {Γ : CM} {H0 S H : Hp} {d : D} {v : V} {m : Mode}
/-- whatever the mode is: over the whole heap the value bears the datum -/
theorem RepM.full (sh : Same S H) (h0 : Same H0 H) (r : RepM K Γ H0 S H m d v) : Rep K Γ H d v := by
  have top : ∀ {a H1}, Same H1 H → TopAt K Γ S H1 a d → Rep K Γ H d (.ref a) := fun {a H1} s1 t => by
    cases d with
    | lst ds => obtain ⟨vs, e, l, r⟩ := t; exact ⟨a, vs, rfl, s1 _ _ e, l, r.mono sh⟩
    | dicK ds => obtain ⟨vs, e, r⟩ := t; exact ⟨a, vs, rfl, s1 _ _ e, r.mono sh⟩
    | dicT ds => obtain ⟨vs, e, r⟩ := t; exact ⟨a, vs, rfl, s1 _ _ e, r.mono sh⟩
    | slf b c ds => obtain ⟨C, dx, vs, e, g, r, q⟩ := t; exact ⟨a, C, dx, vs, rfl, g, s1 _ _ e, r.mono sh, q⟩
    | ins c ds => obtain ⟨C, dx, vs, e, g, r, q⟩ := t; exact ⟨a, C, dx, vs, rfl, g, s1 _ _ e, r.share sh fun q _ o h => s1 q o h⟩
    | nst b kvs => obtain ⟨vs, e, l, r, _⟩ := t; exact ⟨a, vs, rfl, s1 _ _ e, l, r.share (F := []) sh fun q _ o h => s1 q o h⟩
    | _ => exact t.elim
  cases m with
  | sh => exact Rep.mono sh r
  | bo =>
    rcases r with r | ⟨a, ev, t⟩
    · exact Rep.mono sh r
    · subst ev; exact top h0 t
  | rd =>
    rcases r with r | ⟨a, ev, t⟩
    · exact Rep.mono sh r
    · subst ev; exact top (Same.refl _) t
  | ow => obtain ⟨a, ev, n, t⟩ := r; subst ev; exact top (Same.refl _) t
/-- a list, in any mode: its items are shared -/
theorem RepM.lst {ds : List D} (sh : Same S H) (h0 : Same H0 H) (r : RepM K Γ H0 S H m (.lst ds) v) : ∃ a vs, v = .ref a ∧ H a = some (.lst vs) ∧ ds.length ≤ sizeLine ∧ RepL K Γ S ds vs := by
  rcases r.rd h0 with ⟨a, vs, e, h, l, q⟩ | ⟨a, e, vs, h, l, q⟩
  · exact ⟨a, vs, e, sh _ _ h, l, q⟩
  · exact ⟨a, vs, e, h, l, q⟩
theorem RepM.tup {ds : List D} (h0 : Same H0 H) (r : RepM K Γ H0 S H m (.tup ds) v) : ∃ a vs, v = .ref a ∧ S a = some (.tup vs) ∧ ds.length ≤ sizeLine ∧ RepL K Γ S ds vs := by
  rcases r.rd h0 with ⟨a, vs, e, h, l, q⟩ | ⟨a, e, t⟩
  · exact ⟨a, vs, e, h, l, q⟩
  · exact t.elim
theorem RepM.ktup {ds : List D} (h0 : Same H0 H) (r : RepM K Γ H0 S H m (.ktup ds) v) : ∃ a vs, v = .ref a ∧ SqT K S a vs ∧ ds.length ≤ sizeLine ∧ RepL K Γ S ds vs := by
  rcases r.rd h0 with ⟨a, vs, e, h, l, q⟩ | ⟨a, e, t⟩
  · exact ⟨a, vs, e, h, l, q⟩
  · exact t.elim
theorem RepM.dicK {ds : List (Key × D)} (sh : Same S H) (h0 : Same H0 H) (r : RepM K Γ H0 S H m (.dicK ds) v) : ∃ a vs, v = .ref a ∧ H a = some (.dK vs) ∧ RepK K Γ S ds vs := by
  rcases r.rd h0 with ⟨a, vs, e, h, q⟩ | ⟨a, e, vs, h, q⟩
  · exact ⟨a, vs, e, sh _ _ h, q⟩
  · exact ⟨a, vs, e, h, q⟩
theorem RepM.dicT {ds : List (List Key × D)} (sh : Same S H) (h0 : Same H0 H) (r : RepM K Γ H0 S H m (.dicT ds) v) : ∃ a vs, v = .ref a ∧ H a = some (.dT vs) ∧ RepT K Γ S ds vs := by
  rcases r.rd h0 with ⟨a, vs, e, h, q⟩ | ⟨a, e, vs, h, q⟩
  · exact ⟨a, vs, e, sh _ _ h, q⟩
  · exact ⟨a, vs, e, h, q⟩
theorem RepM.ins {c : Str} {ds : List (Str × D)} (sh : Same S H) (h0 : Same H0 H) (r : RepM K Γ H0 S H m (.ins c ds) v) : ∃ a C dx vs, v = .ref a ∧ iM Γ c = some C ∧ H a = some (.ins C dx vs) ∧ ((S a = some (.ins C dx vs) ∧ RepF K Γ S ds vs) ∨ OwnFs K Γ S H (Γ.mu c) ds vs) := by
  rcases r.rd h0 with ⟨a, C, dx, vs, e, g, h, q⟩ | ⟨a, e, C, dx, vs, h, g, q, _⟩
  · exact ⟨a, C, dx, vs, e, g, sh _ _ h, .inl ⟨h, q⟩⟩
  · exact ⟨a, C, dx, vs, e, g, h, .inr q⟩
/-- what is no list and no dict is shared in any mode -/
theorem RepM.flat (h0 : Same H0 H) (r : RepM K Γ H0 S H m d v) (f : ∀ H1 a, ¬ TopAt K Γ S H1 a d) : Rep K Γ S d v := by
  rcases r.rd h0 with r | ⟨a, e, t⟩
  · exact r
  · exact (f _ _ t).elim
theorem RepM.int {i : Int} (h0 : Same H0 H) (r : RepM K Γ H0 S H m (.int i) v) : v = .int i := r.flat h0 fun _ _ t => t
theorem RepM.bl {i : Bool} (h0 : Same H0 H) (r : RepM K Γ H0 S H m (.bl i) v) : v = .bl i := r.flat h0 fun _ _ t => t
theorem RepM.non (h0 : Same H0 H) (r : RepM K Γ H0 S H m .non v) : v = .non := r.flat h0 fun _ _ t => t
theorem RepM.str {x : Str} (h0 : Same H0 H) (r : RepM K Γ H0 S H m (.str x) v) : v = .str x ∧ x.length ≤ sizeLine := r.flat h0 fun _ _ t => t
theorem RepM.scr {ns : List Int} (h0 : Same H0 H) (r : RepM K Γ H0 S H m (.scr ns) v) : ∃ a, v = .ref a ∧ SqL K S a (ns.map V.int) ∧ ns.length ≤ 63 := r.flat h0 fun _ _ t => t
end

section
variable {X : Cx} {Γ : CM} {pins : List (Addr × Obj)} {σ : St} {H : Hp} {s : Shared}
theorem reads_ints {h : Heap} : ∀ {ns : List Int} {us : List Value}, Vals (ns.map V.int) us → ∃ as, ReadsAll h us (ns.map PyData.int) as
  | [], us, r => by cases r; exact ⟨_, .nil⟩
  | n :: ns, us, r => by
    cases r with
    | cons p q =>
      obtain ⟨t, rfl⟩ := p
      obtain ⟨as, h⟩ := reads_ints q
      exact ⟨_, .cons (.int _ _) h⟩
mutual
theorem Rep.reads (I : Inv X pins σ H s) : ∀ (d : D) (v : V) (u : Value), Rep X.K Γ H d v → RelV v u → d.py.plain = true → ∃ as, Reads s.heap u d.py as
  | .non, _, _, h, r, _ => by cases (show _ = V.non from h); cases r; exact ⟨_, Reads.none⟩
  | .bl b, _, _, h, r, _ => by cases (show _ = V.bl b from h); cases r; exact ⟨_, Reads.bool b⟩
  | .int i, _, _, h, r, _ => by cases (show _ = V.int i from h); obtain ⟨t, rfl⟩ := r; exact ⟨_, Reads.int i t⟩
  | .str x, _, _, h, r, _ => by
    obtain ⟨h, _⟩ := h
    subst h
    obtain ⟨t, rfl⟩ := r
    exact ⟨_, Reads.str x t⟩
  | .scr ns, _, _, h, r, _ => by
    obtain ⟨a, e, hs, _⟩ := h
    subst e
    cases r
    obtain ⟨its, rv, ⟨o, n, ho, hc, _, hd⟩, _⟩ := I.list hs
    obtain ⟨as, hr⟩ := reads_ints (h := s.heap) rv
    exact ⟨_, Reads.list ho hc hd hr⟩
  | .lst ds, _, _, h, r, p => by
    obtain ⟨a, vs, e, hs, _, ha⟩ := h
    subst e
    cases r
    obtain ⟨its, rv, ⟨o, n, ho, hc, _, hd⟩, _⟩ := I.list (SqL.of hs)
    obtain ⟨as, hr⟩ := Rep.readsAll I ds _ its ha rv p
    exact ⟨_, Reads.list ho hc hd hr⟩
  | .tup ds, _, _, h, r, p => by
    obtain ⟨a, vs, e, hs, _, ha⟩ := h
    subst e
    cases r
    obtain ⟨its, rv, ⟨o, ho, hc, n, hd⟩, _⟩ := I.tuple (SqT.of hs)
    obtain ⟨as, hr⟩ := Rep.readsAll I ds _ its ha rv p
    exact ⟨_, Reads.tuple ho hc hd hr⟩
  | .ktup ds, _, _, h, r, p => by
    obtain ⟨a, vs, e, hs, _, ha⟩ := h
    subst e
    cases r
    obtain ⟨its, rv, ⟨o, ho, hc, n, hd⟩, _⟩ := I.tuple hs
    obtain ⟨as, hr⟩ := Rep.readsAll I ds _ its ha rv p
    exact ⟨_, Reads.tuple ho hc hd hr⟩
  | .ty _, _, _, _, _, p => by cases p
  | .dicK _, _, _, _, _, p => by cases p
  | .dicT _, _, _, _, _, p => by cases p
  | .ins _ _, _, _, _, _, p => by cases p
  | .slf _ _ _, _, _, _, _, p => by cases p
  | .exc _ _, _, _, _, _, p => by cases p
  | .cls _, _, _, _, _, p => by cases p
  | .nst _ _, _, _, _, _, p => by cases p
theorem Rep.readsAll (I : Inv X pins σ H s) : ∀ (ds : List D) (vs : List V) (us : List Value), RepL X.K Γ H ds vs → Vals vs us → PyData.plainAll (D.pyL ds) = true → ∃ as, ReadsAll s.heap us (D.pyL ds) as
  | [], _, _, h, r, _ => by cases (show _ = [] from h); cases r; exact ⟨_, .nil⟩
  | d :: ds, _, _, h, r, p => by
    obtain ⟨v, ws, e, h1, h2⟩ := h
    subst e
    have p : (d.py.plain && PyData.plainAll (D.pyL ds)) = true := p
    rw [Bool.and_eq_true] at p
    cases r with
    | cons r1 r2 =>
      obtain ⟨as, q1⟩ := Rep.reads I d _ _ h1 r1 p.1
      obtain ⟨bs, q2⟩ := Rep.readsAll I ds _ _ h2 r2 p.2
      exact ⟨_, ReadsAll.cons q1 q2⟩
end
end

/-! ### judgements -/
section
variable (K : PySem.W.Frag) (Γ : CM)
def Kont (H0 S H : Hp) (m : Mode) (d : D) (Q : VK) : Prop :=
  ∀ v S' H', Ext S H S' H' → RepM K Γ H0 S' H' m d v → (m = .ow → Fresh Γ H H' v d) → Q v H'
def SndE (M : List Mode) (t : TE) (f : Ev) (m : Mode) : Prop :=
  ∀ S0 H0 S H σ δ Q d, Wd K Γ S0 H0 S H σ M δ → f δ = some d → Kont K Γ H0 S H m d Q → t σ H Q
def SndT (M : List Mode) (t : TT) (f : Env → Option Bool) : Prop :=
  ∀ S0 H0 S H σ δ Q b, Wd K Γ S0 H0 S H σ M δ → f δ = some b → (∀ S' H', Ext S H S' H' → Q b H') → t σ H Q
def RepMs (H0 S H : Hp) : List Mode → List D → List V → Prop
  | [], ds, vs => ds = [] ∧ vs = []
  | m :: ms, ds, vs => ∃ d ds' v vs', ds = d :: ds' ∧ vs = v :: vs' ∧ RepM K Γ H0 S H m d v ∧ RepMs H0 S H ms ds' vs'
def SndA (M : List Mode) (t : TA) (f : Env → Option (List D)) (ms : List Mode) : Prop :=
  ∀ S0 H0 S H σ δ Q ds, Wd K Γ S0 H0 S H σ M δ → f δ = some ds → (∀ vs S' H', Ext S H S' H' → RepMs K Γ H0 S' H' ms ds vs → Q vs H') → t σ H Q
end
structure DE (Γ : CM) (X : Cx) (M : List Mode) (e : Expr) (t : TE) (f : Ev) (m : Mode) : Prop where
  pe : PE X e t
  snd : SndE X.K Γ M t f m
structure DT (Γ : CM) (X : Cx) (M : List Mode) (e : Expr) (t : TT) (f : Env → Option Bool) : Prop where
  pt : PT X e t
  snd : SndT X.K Γ M t f
structure DW (Γ : CM) (X : Cx) (M : List Mode) (e : Expr) (t : TT) (f : Env → Option Bool) : Prop where
  pw : PW X e t
  snd : SndT X.K Γ M t f
structure DA (Γ : CM) (X : Cx) (M : List Mode) (es : List Expr) (t : TA) (f : Env → Option (List D)) (ms : List Mode) : Prop where
  pa : PA X es t
  snd : SndA X.K Γ M t f ms
/-- an operation by values -/
def SndR2 (K : PySem.W.Frag) (Γ : CM) (r : R2) (op : D → D → Option D) (m : Mode) : Prop :=
  ∀ H0 S H ma mb a b d x y Q, Same S H → Same H0 H → RepM K Γ H0 S H ma a x → RepM K Γ H0 S H mb b y → op a b = some d → Kont K Γ H0 S H m d Q → r x y H Q
structure OpD (Γ : CM) (X : Cx) (f : Value → Value → Sem Value) (r : R2) (o : D → D → Option D) (m : Mode) : Prop where
  op : OpR X f r
  snd : SndR2 X.K Γ r o m

section
variable {K : PySem.W.Frag} {Γ : CM} {H0 S H S' H' : Hp} {M : List Mode} {t ta tb : TE} {f g : Ev} {m ma mb : Mode} {d : D} {Q : VK}
/-- the end without new objects -/
theorem Kont.same (k : Kont K Γ H0 S H m d Q) (s : Same S H) {v : V} (r : RepM K Γ H0 S H m d v) (hm : m ≠ .ow) : Q v H := k v S H (Ext.refl s) r fun z => (hm z).elim
theorem Kont.flat {v : V} (k : Kont K Γ H0 S H .sh d Q) (s : Same S H) (r : Rep K Γ S d v) : Q v H := k v S H (Ext.refl s) r fun z => by cases z
theorem Kont.ext (k : Kont K Γ H0 S H m d Q) (e : Ext S H S' H') : Kont K Γ H0 S' H' m d Q := fun v S2 H2 e2 r f => k v S2 H2 (e.trans e2) r fun z a ev p hp => e.hh.free (f z a ev p hp)
theorem SndE.bin {S0 : Hp} {σ : St} {δ : Env} (sa : SndE K Γ M ta f ma) (sb : SndE K Γ M tb g mb) (w : Wd K Γ S0 H0 S H σ M δ) {a b : D} (ea : f δ = some a) (eb : g δ = some b) {R : V → V → Hp → Prop}
    (k : ∀ x y S' H', Ext S H S' H' → RepM K Γ H0 S' H' ma a x → RepM K Γ H0 S' H' mb b y → Same H0 H' → R x y H') : ta σ H fun x H1 => tb σ H1 fun y H2 => R x y H2 := by
  refine sa S0 H0 S H σ δ _ a w ea fun x S1 H1 e1 r1 _ => ?_
  refine sb S0 H0 S1 H1 σ δ _ b (w.mono e1) eb fun y S2 H2 e2 r2 _ => ?_
  exact k x y S2 H2 (e1.trans e2) (r1.mono e2) r2 ((w.mono e1).mono e2).h0
/-- a fresh one may be shared; what is shared may be read -/
theorem SndE.share (s : SndE K Γ M t f .ow) : SndE K Γ M t f .sh := fun S0 H0 S H σ δ Q d w ef k => by
  refine s S0 H0 S H σ δ Q d w ef fun v S1 H1 e1 r1 fr => ?_
  obtain ⟨a, ev, n, top⟩ := r1
  obtain ⟨S2, ss, s2, r2, off⟩ := top.share e1.sh n
  refine k v S2 H1 ⟨e1.ss.trans ss, e1.hh, s2, fun b o hb tt nb => ?_⟩ (ev ▸ r2) fun z => by cases z
  have nba : b ∉ foot Γ H1 a d := fun e => by rw [fr rfl a ev b e] at hb; cases hb
  rw [off b nba]
  exact e1.fr b o hb tt nb
def okS : Mode → Bool
  | .sh => true
  | .ow => true
  | _ => false
theorem SndE.sh (s : SndE K Γ M t f m) (h : okS m = true) : SndE K Γ M t f .sh := by
  cases m with
  | sh => exact s
  | ow => exact s.share
  | _ => cases h
end

/-! ### names, constants -/
section
variable {X : Cx} {Γ : CM} {M : List Mode} {e a b c : Expr} {t ta tb tc : TE} {f g h : Ev} {m ma mb mc : Mode} {pos : Pos}
def vVar (i : Nat) : Ev := fun δ => (δ[i]?).join
def rdM : Mode → Mode
  | .ow => .rd
  | m => m
theorem snd_var {K : PySem.W.Frag} {i : Nat} (hm : md M i = m) : SndE K Γ M (tVar i) (vVar i) (rdM m) := fun S0 H0 S H σ δ Q d w ef k => by
  have e : δ[i]? = some (some d) := by
    unfold vVar at ef
    cases q : δ[i]? with
    | none => rw [q] at ef; cases ef
    | some o => rw [q] at ef; cases o with
      | none => cases ef
      | some x => cases ef; rfl
  obtain ⟨v, hv, r⟩ := w.slot i d e
  rw [hm] at r
  refine ⟨v, hv, k v S H (Ext.refl w.sH) ?_ fun z => ?_⟩
  · cases m with
    | ow => exact r.rd w.h0
    | _ => exact r
  · cases m <;> cases z
theorem de_var {i : Nat} {x : Str} (hm : md M i = m := by rfl) (hN : X.N[i]? = some x := by rfl) (hv : Vis X.env.scope x := by first | exact Or.inl rfl | exact Or.inr (Or.inl rfl) | exact Or.inr (Or.inr rfl)) (hd : (x == ("__debug__" : Str)) = false := by decide)
    (hcd : (x == ("__classdict__" : Str)) = false := by decide) : DE Γ X M (.Name x pos) (tVar i) (vVar i) (rdM m) := ⟨pe_var hN hv hd hcd, snd_var hm⟩
def vC (d : D) : Ev := fun _ => some d
theorem snd_c {K : PySem.W.Frag} {d : D} {v : V} (h : ∀ S, Rep K Γ S d v) : SndE K Γ M (tC v) (vC d) .sh := fun S0 H0 S H σ δ Q d' w ef k => by
  cases ef
  exact k.flat w.sH (h S)
theorem de_int {i j} : DE Γ X M (.Constant (.int i) j pos) (tC (.int i)) (vC (.int i)) .sh := ⟨pe_int, snd_c fun _ => rfl⟩
theorem de_bl {i j} : DE Γ X M (.Constant (.bool i) j pos) (tC (.bl i)) (vC (.bl i)) .sh := ⟨pe_bl, snd_c fun _ => rfl⟩
theorem de_non {j} : DE Γ X M (.Constant .none j pos) (tC .non) (vC .non) .sh := ⟨pe_non, snd_c fun _ => rfl⟩
theorem de_str {x j} (hx : x.length ≤ sizeLine := by decide +kernel) : DE Γ X M (.Constant (.str x) j pos) (tC (.str x)) (vC (.str x)) .sh := ⟨pe_str, snd_c fun _ => ⟨rfl, hx⟩⟩
/-- a module's constant -/
theorem de_glob {x : Str} {v : V} {u : Value} {d : D} (hg : Gl X x) (hm : X.mg x = some u) (r : RelV v u) (h : ∀ S, Rep X.K Γ S d v) (hd : (x == ("__debug__" : Str)) = false := by decide) : DE Γ X M (.Name x pos) (tC v) (vC d) .sh := ⟨pe_glob hg hm r hd, snd_c h⟩

/-! ### operations -/
def v2 (op : D → D → Option D) (f g : Ev) : Ev := fun δ => (f δ).bind fun a => (g δ).bind fun b => op a b
theorem v2_some {op : D → D → Option D} {δ : Env} {d : D} (h : v2 op f g δ = some d) : ∃ a b, f δ = some a ∧ g δ = some b ∧ op a b = some d := by
  unfold v2 at h
  cases p : f δ with
  | none => rw [p] at h; cases h
  | some a =>
    rw [p] at h
    cases q : g δ with
    | none => rw [Option.bind_some, q] at h; cases h
    | some b => rw [Option.bind_some, q] at h; exact ⟨a, b, rfl, rfl, h⟩
theorem snd_op {K : PySem.W.Frag} {r : R2} {op : D → D → Option D} (o : SndR2 K Γ r op m) (sa : SndE K Γ M ta f ma) (sb : SndE K Γ M tb g mb) : SndE K Γ M (tOp r ta tb) (v2 op f g) m := fun S0 H0 S H σ δ Q d w ef k => by
  obtain ⟨x, y, ea, eb, e⟩ := v2_some ef
  refine sa.bin sb w ea eb fun u v S' H' ex ru rv h0 => ?_
  exact o H0 S' H' ma mb x y d u v Q ex.sh h0 ru rv e (k.ext ex)
theorem de_op {op : Operator} {r : R2} {o : D → D → Option D} (ho : OpD Γ X (binaryOp op) r o m) (ha : DE Γ X M a ta f ma) (hb : DE Γ X M b tb g mb) : DE Γ X M (.BinOp a op b pos) (tOp r ta tb) (v2 o f g) m :=
  ⟨pe_op ho.op ha.pe hb.pe, snd_op ho.snd ha.snd hb.snd⟩
theorem de_cmp {op : CmpOp} {r : R2} {o : D → D → Option D} (ho : OpD Γ X (compareOp op) r o m) (ha : DE Γ X M a ta f ma) (hb : DE Γ X M b tb g mb) (hm : behindInMarks op b = false := by first | exact nomark _ | rfl) : DE Γ X M (.Compare a [op] [b] pos) (tOp r ta tb) (v2 o f g) m :=
  ⟨pe_cmpR ho.op ha.pe hb.pe hm, snd_op ho.snd ha.snd hb.snd⟩
def vTst (f : Ev) : Env → Option Bool := fun δ => (f δ).bind fun d => match d with | .bl b => some b | _ => none
theorem vTst_some {δ : Env} {b : Bool} (h : vTst f δ = some b) : f δ = some (.bl b) := by
  unfold vTst at h
  cases p : f δ with
  | none => rw [p] at h; cases h
  | some d =>
    rw [p] at h
    cases d with
    | bl c => cases h; rfl
    | _ => cases h
theorem snd_tst {K : PySem.W.Frag} (s : SndE K Γ M t f m) : SndT K Γ M (fun σ H Q => t σ H fun x H' => ∃ k, x = .bl k ∧ Q k H') (vTst f) := fun S0 H0 S H σ δ Q b w ef k => by
  refine s S0 H0 S H σ δ _ _ w (vTst_some ef) fun v S' H' e r _ => ?_
  exact ⟨b, r.bl (w.mono e).h0, k S' H' e⟩
theorem dt_cmp {op : CmpOp} {r : R2} {o : D → D → Option D} (ho : OpD Γ X (compareOp op) r o m) (ha : DE Γ X M a ta f ma) (hb : DE Γ X M b tb g mb) (hm : behindInMarks op b = false := by first | exact nomark _ | rfl) :
    DT Γ X M (.Compare a [op] [b] pos) (tTest (tOp r ta tb)) (vTst (v2 o f g)) := ⟨pt_cmpR ho.op ha.pe hb.pe hm, snd_tst (snd_op ho.snd ha.snd hb.snd)⟩
/-- a value that is a truth, as a test -/
theorem dt_val (he : DE Γ X M e t f m) (hs : ∀ whole, isTrue e X.env whole = (do let v ← whole; standAt e.pos; holding [v] (truthy v)) := by intro _; rfl) : DT Γ X M e (tB t) (vTst f) := ⟨pt_val he.pe hs, snd_tst he.snd⟩

/-! a < b < c -/
def vChain (o o' : D → D → Option D) (f g h : Ev) : Ev := fun δ => (f δ).bind fun a => (g δ).bind fun b => (o a b).bind fun d => match d with
  | .bl true => (h δ).bind fun c => o' b c
  | .bl false => some (.bl false)
  | _ => none
theorem snd_chain {K : PySem.W.Frag} {r r' : R2} {o o' : D → D → Option D} (h1 : SndR2 K Γ r o .sh) (h2 : SndR2 K Γ r' o' .sh) (sa : SndE K Γ M ta f ma) (sb : SndE K Γ M tb g mb) (sc : SndE K Γ M tc h mc) :
    SndE K Γ M (tChain r r' ta tb tc) (vChain o o' f g h) .sh := fun S0 H0 S H σ δ Q d w ef k => by
  unfold vChain at ef
  cases p : f δ with
  | none => rw [p] at ef; cases ef
  | some a =>
    cases q : g δ with
    | none => rw [p, q] at ef; cases ef
    | some b =>
      rw [p, q, Option.bind_some, Option.bind_some] at ef
      cases ee : o a b with
      | none => rw [ee] at ef; cases ef
      | some z =>
        rw [ee, Option.bind_some] at ef
        refine sa.bin sb w p q fun x y S1 H1 e1 r1 r2 h0 => ?_
        refine h1 H0 S1 H1 ma mb a b z x y _ e1.sh h0 r1 r2 ee fun v S2 H2 e2 rv _ => ?_
        have w2 := (w.mono e1).mono e2
        cases z with
        | bl c =>
          refine ⟨c, rv, ?_⟩
          cases c with
          | true =>
            rw [if_pos rfl]
            cases u : h δ with
            | none => simp [u] at ef
            | some cc =>
              simp only [u, Option.bind_some] at ef
              refine sc S0 H0 S2 H2 σ δ _ cc w2 u fun v3 S3 H3 e3 r3 _ => ?_
              exact h2 H0 S3 H3 mb mc b cc d y v3 Q e3.sh (w2.mono e3).h0 ((r2.mono e2).mono e3) r3 ef (k.ext ((e1.trans e2).trans e3))
          | false =>
            rw [if_neg Bool.false_ne_true]
            cases ef
            exact (k.ext (e1.trans e2)).flat e2.sh rfl
        | _ => cases ef
theorem de_chain {op op' : CmpOp} {r r' : R2} {o o' : D → D → Option D} (h1 : OpD Γ X (compareOp op) r o .sh) (h2 : OpD Γ X (compareOp op') r' o' .sh) (ha : DE Γ X M a ta f ma) (hb : DE Γ X M b tb g mb) (hc : DE Γ X M c tc h mc)
    (hm : lastMarks [op, op'] [b, c] = false := by with_unfolding_all rfl) : DE Γ X M (.Compare a [op, op'] [b, c] pos) (tChain r r' ta tb tc) (vChain o o' f g h) .sh := ⟨pe_chain h1.op h2.op ha.pe hb.pe hc.pe hm, snd_chain h1.snd h2.snd ha.snd hb.snd hc.snd⟩
theorem dt_chain {op op' : CmpOp} {r r' : R2} {o o' : D → D → Option D} (h1 : OpD Γ X (compareOp op) r o .sh) (h2 : OpD Γ X (compareOp op') r' o' .sh) (ha : DE Γ X M a ta f ma) (hb : DE Γ X M b tb g mb) (hc : DE Γ X M c tc h mc)
    (hm : lastMarks [op, op'] [b, c] = false := by with_unfolding_all rfl) : DT Γ X M (.Compare a [op, op'] [b, c] pos) (tTest (tChain r r' ta tb tc)) (vTst (vChain o o' f g h)) := ⟨pt_chain h1.op h2.op ha.pe hb.pe hc.pe hm, snd_tst (snd_chain h1.snd h2.snd ha.snd hb.snd hc.snd)⟩
end
end Dl
/-! operations by values. -/
namespace Dl
open PySem L2
theorem opR_or {X : Cx} {f : Value → Value → Sem Value} {r r' : R2} (h : OpR X f r) (h' : OpR X f r') : OpR X f (fun x y H Q => r x y H Q ∨ r' x y H Q) := by
  intro pins s σ H x y v u Q I rx ry q
  rcases q with q | q
  · exact h pins s σ H x y v u Q I rx ry q
  · exact h' pins s σ H x y v u Q I rx ry q
section
variable {K : PySem.W.Frag} {Γ : CM} {H0 S H : Hp} {m : Mode} {Q : VK}
/-- a new list; new tuple -/
theorem Kont.newL {ds : List D} {vs : List V} (k : Kont K Γ H0 S H m (.lst ds) Q) (hm : okS m = true) (sh : Same S H) (hl : ds.length ≤ sizeLine) (r : RepL K Γ S ds vs) {p : Addr} (hp : H p = none) : Q (.ref p) (upd H p (.lst vs)) := by
  cases m with
  | sh => exact k _ _ _ (Ext.shared sh hp _) ⟨p, vs, rfl, upd_same, hl, r.mono (Same.upd (Same.none sh hp))⟩ fun z => by cases z
  | ow => exact k _ _ _ (Ext.owned sh hp _) ⟨p, rfl, fun q hq => by rw [List.mem_singleton.mp hq]; exact Same.none sh hp, vs, upd_same, hl, r⟩ fun _ => Fresh.one (h := fun a e => by cases e; exact hp)
  | _ => cases hm
theorem Kont.newT {ds : List D} {vs : List V} (k : Kont K Γ H0 S H .sh (.tup ds) Q) (sh : Same S H) (hl : ds.length ≤ sizeLine) (r : RepL K Γ S ds vs) {p : Addr} (hp : H p = none) : Q (.ref p) (upd H p (.tup vs)) :=
  k _ _ _ (Ext.shared sh hp _) ⟨p, vs, rfl, upd_same, hl, r.mono (Same.upd (Same.none sh hp))⟩ fun z => by cases z
theorem Kont.newK {ds : List (Key × D)} {vs : List (Key × V)} (k : Kont K Γ H0 S H m (.dicK ds) Q) (hm : okS m = true) (sh : Same S H) (r : RepK K Γ S ds vs) {p : Addr} (hp : H p = none) : Q (.ref p) (upd H p (.dK vs)) := by
  cases m with
  | sh => exact k _ _ _ (Ext.shared sh hp _) ⟨p, vs, rfl, upd_same, r.mono (Same.upd (Same.none sh hp))⟩ fun z => by cases z
  | ow => exact k _ _ _ (Ext.owned sh hp _) ⟨p, rfl, fun q hq => by rw [List.mem_singleton.mp hq]; exact Same.none sh hp, vs, upd_same, r⟩ fun _ => Fresh.one (h := fun a e => by cases e; exact hp)
  | _ => cases hm
theorem Kont.newDT {ds : List (List Key × D)} {vs : List (List Key × V)} (k : Kont K Γ H0 S H m (.dicT ds) Q) (hm : okS m = true) (sh : Same S H) (r : RepT K Γ S ds vs) {p : Addr} (hp : H p = none) : Q (.ref p) (upd H p (.dT vs)) := by
  cases m with
  | sh => exact k _ _ _ (Ext.shared sh hp _) ⟨p, vs, rfl, upd_same, r.mono (Same.upd (Same.none sh hp))⟩ fun z => by cases z
  | ow => exact k _ _ _ (Ext.owned sh hp _) ⟨p, rfl, fun q hq => by rw [List.mem_singleton.mp hq]; exact Same.none sh hp, vs, upd_same, r⟩ fun _ => Fresh.one (h := fun a e => by cases e; exact hp)
  | _ => cases hm
theorem Same.sq (h0 : Same S H) {a : Addr} {vs : List V} (h : SqT K S a vs) : SqT K H a vs := Same.sqt h0 h
end

theorem ite_some {α : Type} {c : Prop} [Decidable c] {a d : α} (h : (if c then some a else none) = some d) : c ∧ a = d := by
  by_cases q : c
  · rw [if_pos q] at h; exact ⟨q, Option.some.inj h⟩
  · rw [if_neg q] at h; cases h
/-! ### + -/
def opAdd : D → D → Option D
  | .int i, .int j => some (.int (i + j))
  | .str a, .str b => if a.length + b.length ≤ sizeLine then some (.str (a ++ b)) else none
  | .tup a, .tup b => if a.length + b.length ≤ sizeLine then some (.tup (a ++ b)) else none
  | .lst a, .lst b => if a.length + b.length ≤ sizeLine then some (.lst (a ++ b)) else none
  | _, _ => none
def rAddD (K : PySem.W.Frag) : R2 := fun x y H Q => rI0 (fun i j => .int (i + j)) x y H Q ∨ ((∃ i j, x = .str i ∧ y = .str j ∧ i.length + j.length ≤ sizeLine ∧ Q (.str (i ++ j)) H) ∨ (rCatA K x y H Q ∨ rCat x y H Q))
theorem str_len_append (a b : Str) : (a ++ b).length = a.length + b.length := by
  show (a.cps ++ b.cps).size = _
  rw [Array.size_append]; rfl
theorem od_add {X : Cx} {Γ : CM} : OpD Γ X (binaryOp .Add) (rAddD X.K) opAdd .sh := by
  refine ⟨opR_or op_add (opR_or op_add_str (opR_or op_catA op_cat)), ?_⟩
  intro H0 S H ma mb a b d x y Q sh h0 ra rb e k
  cases a with
  | int i =>
    cases b with
    | int j =>
      cases e
      exact .inl ⟨i, j, ra.int h0, rb.int h0, k.flat sh rfl⟩
    | _ => cases e
  | str i =>
    cases b with
    | str j =>
      obtain ⟨hl, rfl⟩ := ite_some e
      exact .inr (.inl ⟨i, j, (ra.str h0).1, (rb.str h0).1, hl, k.flat sh ⟨rfl, by rw [str_len_append]; exact hl⟩⟩)
    | _ => cases e
  | tup i =>
    cases b with
    | tup j =>
      obtain ⟨hl, rfl⟩ := ite_some e
      obtain ⟨p, vs, rfl, h1, l1, r1⟩ := ra.tup h0
      obtain ⟨q, ws, rfl, h2, l2, r2⟩ := rb.tup h0
      have n1 := r1.length
      have n2 := r2.length
      refine .inr (.inr (.inl ⟨p, q, vs, ws, rfl, rfl, SqT.of (sh _ _ h1), SqT.of (sh _ _ h2), by omega, fun e1 => ?_, fun _ e2 => ?_, fun _ _ t ht => ?_⟩))
      · subst e1
        have : i = [] := List.length_eq_zero_iff.mp n1.symm
        subst this
        exact k.flat sh ⟨q, ws, rfl, h2, by simpa using hl, by simpa using r2⟩
      · subst e2
        have : j = [] := List.length_eq_zero_iff.mp n2.symm
        subst this
        rw [List.append_nil] at k
        exact k.flat sh ⟨p, vs, rfl, h1, l1, r1⟩
      · exact k.newT sh (by rw [List.length_append]; exact hl) (r1.append r2) ht
    | _ => cases e
  | lst i =>
    cases b with
    | lst j =>
      obtain ⟨hl, rfl⟩ := ite_some e
      obtain ⟨p, vs, rfl, h1, l1, r1⟩ := ra.lst sh h0
      obtain ⟨q, ws, rfl, h2, l2, r2⟩ := rb.lst sh h0
      have n1 := r1.length
      have n2 := r2.length
      exact .inr (.inr (.inr ⟨p, q, vs, ws, rfl, rfl, h1, h2, by omega, fun t ht => k.newL rfl sh (by rw [List.length_append]; exact hl) (r1.append r2) ht⟩))
    | _ => cases e
  | _ => cases e
/-- of lists: a list of one's own -/
def opCat : D → D → Option D
  | .lst a, .lst b => if a.length + b.length ≤ sizeLine then some (.lst (a ++ b)) else none
  | _, _ => none
theorem od_cat {X : Cx} {Γ : CM} : OpD Γ X (binaryOp .Add) rCat opCat .ow := by
  refine ⟨op_cat, ?_⟩
  intro H0 S H ma mb a b d x y Q sh h0 ra rb e k
  cases a with
  | lst i =>
    cases b with
    | lst j =>
      obtain ⟨hl, rfl⟩ := ite_some e
      obtain ⟨p, vs, rfl, h1, l1, r1⟩ := ra.lst sh h0
      obtain ⟨q, ws, rfl, h2, l2, r2⟩ := rb.lst sh h0
      have n1 := r1.length
      have n2 := r2.length
      exact ⟨p, q, vs, ws, rfl, rfl, h1, h2, by omega, fun t ht => k.newL rfl sh (by rw [List.length_append]; exact hl) (r1.append r2) ht⟩
    | _ => cases e
  | _ => cases e

/-! ### ints -/
def opI (g : Int → Int → Option D) : D → D → Option D
  | .int i, .int j => g i j
  | _, _ => none
theorem opI_some {g : Int → Int → Option D} {a b d : D} (h : opI g a b = some d) : ∃ i j, a = .int i ∧ b = .int j ∧ g i j = some d := by
  cases a with
  | int i => cases b with
    | int j => exact ⟨i, j, rfl, rfl, h⟩
    | _ => cases h
  | _ => cases h
theorem od_I {X : Cx} {Γ : CM} {f : Value → Value → Sem Value} {C : Int → Int → Prop} {g : Int → Int → V} {o : Int → Int → Option D} (h : OpR X f (rI C g)) (ho : ∀ i j d, o i j = some d → C i j ∧ ∀ S, Rep X.K Γ S d (g i j)) : OpD Γ X f (rI C g) (opI o) .sh :=
  ⟨h, fun H0 S H ma mb a b d x y Q sh h0 ra rb e k => by
    obtain ⟨i, j, rfl, rfl, e⟩ := opI_some e
    obtain ⟨c, r⟩ := ho i j d e
    exact ⟨i, j, ra.int h0, rb.int h0, c, k.flat sh (r S)⟩⟩
theorem od_I0 {X : Cx} {Γ : CM} {f : Value → Value → Sem Value} {g : Int → Int → V} {o : Int → Int → Option D} (h : OpR X f (rI0 g)) (ho : ∀ i j d, o i j = some d → ∀ S, Rep X.K Γ S d (g i j)) : OpD Γ X f (rI0 g) (opI o) .sh :=
  ⟨h, fun H0 S H ma mb a b d x y Q sh h0 ra rb e k => by
    obtain ⟨i, j, rfl, rfl, e⟩ := opI_some e
    exact ⟨i, j, ra.int h0, rb.int h0, k.flat sh (ho i j d e S)⟩⟩
def opSub := opI fun i j => some (.int (i - j))
theorem od_sub {X : Cx} {Γ : CM} : OpD Γ X (binaryOp .Sub) (rI0 fun i j => .int (i - j)) opSub .sh := od_I0 op_sub fun i j d h S => by cases h; rfl
def mulOk (i j : Int) : Bool := (decide (-(2 ^ 64) < i) && decide (i < 2 ^ 64)) || (decide (-(2 ^ 64) < j) && decide (j < 2 ^ 64))
def opMulI := opI fun i j => if mulOk i j then some (.int (i * j)) else none
theorem od_mulI {X : Cx} {Γ : CM} : OpD Γ X (binaryOp .Mult) (rI CMul fun i j => .int (i * j)) opMulI .sh := od_I op_mul fun i j d h => by
  split at h
  · rename_i c
    cases h
    refine ⟨?_, fun S => rfl⟩
    unfold mulOk at c
    simp only [Bool.or_eq_true, Bool.and_eq_true, decide_eq_true_eq] at c
    exact c
  · cases h
def opMod := opI fun i j => if 0 < j then some (.int (i % j)) else none
theorem od_mod {X : Cx} {Γ : CM} : OpD Γ X (binaryOp .Mod) (rI (fun _ j => 0 < j) fun i j => .int (i % j)) opMod .sh := od_I op_mod fun i j d h => by
  split at h
  · rename_i c; cases h; exact ⟨c, fun S => rfl⟩
  · cases h
def opDiv := opI fun i j => if 0 < j ∧ j < 1073741824 then some (.int (i / j)) else none
theorem od_div {X : Cx} {Γ : CM} : OpD Γ X (binaryOp .FloorDiv) (rI CDiv fun i j => .int (i / j)) opDiv .sh := od_I op_fdiv fun i j d h => by
  split at h
  · rename_i c; cases h; exact ⟨c, fun S => rfl⟩
  · cases h
def opPow := opI fun i j => if 0 ≤ j ∧ j ≤ 1000000 ∧ i.natAbs < 2 ^ 64 then some (.int (i ^ j.toNat)) else none
theorem od_pow {X : Cx} {Γ : CM} : OpD Γ X (binaryOp .Pow) (rI CPow fun i j => .int (i ^ j.toNat)) opPow .sh := od_I op_pow fun i j d h => by
  split at h
  · rename_i c; cases h; exact ⟨c, fun S => rfl⟩
  · cases h
def opLt := opI fun i j => some (.bl (decide (i < j)))
def opLe := opI fun i j => some (.bl (decide (i ≤ j)))
def opGt := opI fun i j => some (.bl (decide (j < i)))
def opGe := opI fun i j => some (.bl (decide (j ≤ i)))
theorem od_lt {X : Cx} {Γ : CM} : OpD Γ X (compareOp .Lt) (rI0 fun i j => .bl (decide (i < j))) opLt .sh := od_I0 op_lt fun i j d h S => by cases h; rfl
theorem od_le {X : Cx} {Γ : CM} : OpD Γ X (compareOp .LtE) (rI0 fun i j => .bl (decide (i ≤ j))) opLe .sh := od_I0 op_le fun i j d h S => by cases h; rfl
theorem od_gt {X : Cx} {Γ : CM} : OpD Γ X (compareOp .Gt) (rI0 fun i j => .bl (decide (j < i))) opGt .sh := od_I0 op_gt fun i j d h S => by cases h; rfl
theorem od_ge {X : Cx} {Γ : CM} : OpD Γ X (compareOp .GtE) (rI0 fun i j => .bl (decide (j ≤ i))) opGe .sh := od_I0 op_ge fun i j d h S => by cases h; rfl

/-! ### [..] * n -/
def opMul : D → D → Option D
  | .lst ds, .int k => if k < 2 ^ 62 ∧ -(2 ^ 62) < k ∧ ds.length * k.toNat ≤ sizeLine then some (.lst (List.replicate k.toNat ds).flatten) else none
  | _, _ => none
theorem RepL.rep {K : PySem.W.Frag} {Γ : CM} {S : Hp} {ds : List D} {vs : List V} (r : RepL K Γ S ds vs) : ∀ n, RepL K Γ S (List.replicate n ds).flatten (List.replicate n vs).flatten
  | 0 => rfl
  | n + 1 => by rw [List.replicate_succ, List.replicate_succ, List.flatten_cons, List.flatten_cons]; exact r.append (RepL.rep r n)
theorem flat_len {α : Type} (l : List α) : ∀ n, (List.replicate n l).flatten.length = l.length * n
  | 0 => by simp
  | n + 1 => by rw [List.replicate_succ, List.flatten_cons, List.length_append, flat_len l n, Nat.mul_succ, Nat.add_comm]
theorem od_mulL {X : Cx} {Γ : CM} (hm : okS m = true) : OpD Γ X (binaryOp .Mult) rRep opMul m := by
  refine ⟨op_rep, ?_⟩
  intro H0 S H ma mb a b d x y Q sh h0 ra rb e k
  cases a with
  | lst ds =>
    cases b with
    | int j =>
      obtain ⟨hl, rfl⟩ := ite_some e
      obtain ⟨p, vs, rfl, h1, l1, r1⟩ := ra.lst sh h0
      have n1 := r1.length
      refine ⟨p, j, vs, rfl, rb.int h0, h1, by omega, by omega, by rw [n1]; exact hl.2.2, fun t ht => k.newL hm sh (by rw [flat_len]; exact hl.2.2) (r1.rep _) ht⟩
    | _ => cases e
  | _ => cases e

/-! ### ==, != at any depth -/
def rEqP (K : PySem.W.Frag) (Γ : CM) : R2 := fun x y H Q => ∃ d e, Rep K Γ H d x ∧ Rep K Γ H e y ∧ cmpOk d e = true ∧ Q (.bl (D.eqv d e)) H
def rNeP (K : PySem.W.Frag) (Γ : CM) : R2 := fun x y H Q => ∃ d e, Rep K Γ H d x ∧ Rep K Γ H e y ∧ cmpOk d e = true ∧ Q (.bl (!D.eqv d e)) H
theorem cmpOk_and {d e : D} (h : cmpOk d e = true) : d.py.plain = true ∧ e.py.plain = true ∧ min d.py.depth e.py.depth ≤ 60 := by
  unfold cmpOk at h
  simp only [Bool.and_eq_true, decide_eq_true_eq] at h
  exact ⟨h.1.1, h.1.2, h.2⟩
theorem op_eqP {X : Cx} {Γ : CM} (hu : X.A.units + 64 < cLine) : OpR X (compareOp .Eq) (rEqP X.K Γ) := by
  intro pins s σ H x y v u Q I rx ry ⟨d, e, rd, re, c, q⟩
  obtain ⟨c1, c2, c3⟩ := cmpOk_and c
  obtain ⟨as, r1⟩ := Rep.reads I d x v rd rx c1
  obtain ⟨bs, r2⟩ := Rep.reads I e y u re ry c2
  exact PySem.SeqAt.eq_plain r1 r2 c1 c2 (by omega) ⟨.bl _, H, I, rfl, q⟩
theorem op_neP {X : Cx} {Γ : CM} (hu : X.A.units + 64 < cLine) : OpR X (compareOp .NotEq) (rNeP X.K Γ) := by
  intro pins s σ H x y v u Q I rx ry ⟨d, e, rd, re, c, q⟩
  obtain ⟨c1, c2, c3⟩ := cmpOk_and c
  obtain ⟨as, r1⟩ := Rep.reads I d x v rd rx c1
  obtain ⟨bs, r2⟩ := Rep.reads I e y u re ry c2
  exact PySem.SeqAt.ne_plain r1 r2 c1 c2 (by omega) ⟨.bl _, H, I, rfl, q⟩
theorem od_eq {X : Cx} {Γ : CM} (hu : X.A.units + 64 < cLine) : OpD Γ X (compareOp .Eq) (rEqP X.K Γ) opEq .sh :=
  ⟨op_eqP hu, fun H0 S H ma mb a b d x y Q sh h0 ra rb e k => by
    obtain ⟨c, rfl⟩ := ite_some e
    exact ⟨a, b, ra.full sh h0, rb.full sh h0, c, k.flat sh rfl⟩⟩
theorem od_ne {X : Cx} {Γ : CM} (hu : X.A.units + 64 < cLine) : OpD Γ X (compareOp .NotEq) (rNeP X.K Γ) opNe .sh :=
  ⟨op_neP hu, fun H0 S H ma mb a b d x y Q sh h0 ra rb e k => by
    obtain ⟨c, rfl⟩ := ite_some e
    exact ⟨a, b, ra.full sh h0, rb.full sh h0, c, k.flat sh rfl⟩⟩
/-! ### is None -/
def isNon : D → Bool
  | .non => true
  | _ => false
def opIs : D → D → Option D
  | a, .non => some (.bl (isNon a))
  | _, _ => none
def opNot : D → D → Option D
  | a, .non => some (.bl (!isNon a))
  | _, _ => none
theorem Rep.non_iff {K : PySem.W.Frag} {Γ : CM} {H : Hp} {d : D} {v : V} (r : Rep K Γ H d v) : decide (v = .non) = isNon d := by
  cases d with
  | non => cases (show v = .non from r); rfl
  | bl b => cases (show v = .bl b from r); rfl
  | int b => cases (show v = .int b from r); rfl
  | str b => obtain ⟨rfl, _⟩ := r; rfl
  | ty b => cases (show v = .ty b from r); rfl
  | scr b => obtain ⟨a, rfl, _⟩ := r; rfl
  | lst b => obtain ⟨a, vs, rfl, _⟩ := r; rfl
  | tup b => obtain ⟨a, vs, rfl, _⟩ := r; rfl
  | ktup b => obtain ⟨a, vs, rfl, _⟩ := r; rfl
  | dicK b => obtain ⟨a, vs, rfl, _⟩ := r; rfl
  | dicT b => obtain ⟨a, vs, rfl, _⟩ := r; rfl
  | ins c b => obtain ⟨a, C, dx, vs, rfl, _⟩ := r; rfl
  | slf _ c b => obtain ⟨a, C, dx, vs, rfl, _⟩ := r; rfl
  | exc a c => cases (show v = .ref a from r); rfl
  | cls c => obtain ⟨C, _, rfl⟩ := r; rfl
  | nst b kvs => obtain ⟨a, vs, rfl, _⟩ := r; rfl
theorem opIs_some {g : Bool → Bool} {f : D → D → Option D} (hf : ∀ a b d, f a b = some d → b = .non ∧ d = .bl (g (isNon a))) : ∀ a b d, f a b = some d → b = .non ∧ d = .bl (g (isNon a)) := hf
theorem od_is {X : Cx} {Γ : CM} : OpD Γ X (compareOp .Is) (fun x y H Q => y = .non ∧ Q (.bl (decide (x = .non))) H) opIs .sh :=
  ⟨op_isN, fun H0 S H ma mb a b d x y Q sh h0 ra rb e k => by
    cases b with
    | non =>
      cases e
      refine ⟨rb.non h0, ?_⟩
      rw [(ra.full sh h0).non_iff]
      exact k.flat sh rfl
    | _ => cases e⟩
theorem od_isnot {X : Cx} {Γ : CM} : OpD Γ X (compareOp .IsNot) (fun x y H Q => y = .non ∧ Q (.bl (!decide (x = .non))) H) opNot .sh :=
  ⟨op_notN, fun H0 S H ma mb a b d x y Q sh h0 ra rb e k => by
    cases b with
    | non =>
      cases e
      refine ⟨rb.non h0, ?_⟩
      rw [(ra.full sh h0).non_iff]
      exact k.flat sh rfl
    | _ => cases e⟩
/-! ### in -/
def strIn (a b : Str) : Bool := !(Builtin.Str.occurrences b a 0 b.length 1).isEmpty
def keyD : D → Option Key
  | .int i => some (.inl i)
  | .str x => some (.inr x)
  | _ => none
def keysD : D → Option (List Key)
  | .tup ds => ds.mapM keyD
  | _ => none
def lookK : List (Key × D) → Key → Option D
  | [], _ => none
  | (k, d) :: r, j => if k = j then some d else lookK r j
def lookT : List (List Key × D) → List Key → Option D
  | [], _ => none
  | (k, d) :: r, j => if k = j then some d else lookT r j
def opInB : D → D → Option Bool
  | a, .lst ds => if cmpOk (.lst ds) a then some (ds.any fun y => D.eqv y a) else none
  | a, .tup ds => if cmpOk (.tup ds) a then some (ds.any fun y => D.eqv y a) else none
  | a, .ktup ds => if cmpOk (.ktup ds) a then some (ds.any fun y => D.eqv y a) else none
  | .str a, .str b => some (strIn a b)
  | a, .dicK kvs => (keyD a).map fun k => (lookK kvs k).isSome
  | a, .dicT kvs => (keysD a).map fun k => (lookT kvs k).isSome
  | _, _ => none
def opIn (a b : D) : Option D := (opInB a b).map D.bl
def opNin (a b : D) : Option D := (opInB a b).map fun c => D.bl (!c)
def rInP (K : PySem.W.Frag) (Γ : CM) (neg : Bool) : R2 := fun x y H Q => ∃ d e b, Rep K Γ H d x ∧ Rep K Γ H e y ∧ opInB d e = some b ∧ Q (.bl (if neg then !b else b)) H
theorem pyL_any (a : D) : ∀ ds : List D, ((D.pyL ds).any fun y => PyData.eqv y a.py) = ds.any fun y => D.eqv y a
  | [] => rfl
  | d :: ds => by
    show (PyData.eqv d.py a.py || (D.pyL ds).any _) = _
    rw [pyL_any a ds]; rfl
theorem valV_look {K : PySem.W.Frag} {Γ : CM} {S : Hp} : ∀ {kvs : List (Key × D)} {vs : List (Key × V)} (k : Key), RepK K Γ S kvs vs → (match lookK kvs k with | some d => ∃ v, valV vs k = some v ∧ Rep K Γ S d v | none => valV vs k = none)
  | [], vs, k, r => by cases (show vs = [] from r); rfl
  | (j, d) :: kvs, _, k, ⟨v, ws, e, r, t⟩ => by
    subst e
    have ih := valV_look k t
    unfold lookK
    by_cases q : j = k
    · subst q
      rw [if_pos rfl]
      exact ⟨v, by simp [valV], r⟩
    · rw [if_neg q]
      have e : valV ((j, v) :: ws) k = valV ws k := by simp [valV, q]
      rw [e]
      exact ih
theorem valV_lookT {K : PySem.W.Frag} {Γ : CM} {S : Hp} : ∀ {kvs : List (List Key × D)} {vs : List (List Key × V)} (k : List Key), RepT K Γ S kvs vs → (match lookT kvs k with | some d => ∃ v, valV vs k = some v ∧ Rep K Γ S d v | none => valV vs k = none)
  | [], vs, k, r => by cases (show vs = [] from r); rfl
  | (j, d) :: kvs, _, k, ⟨v, ws, e, r, t⟩ => by
    subst e
    have ih := valV_lookT k t
    unfold lookT
    by_cases q : j = k
    · subst q
      rw [if_pos rfl]
      exact ⟨v, by simp [valV], r⟩
    · rw [if_neg q]
      have e : valV ((j, v) :: ws) k = valV ws k := by simp [valV, q]
      rw [e]
      exact ih
end Dl
/-! in, items, slices, tests, displays, fields, len. -/
namespace Dl
open PySem L2
section
variable {K : PySem.W.Frag} {Γ : CM} {S H : Hp}
theorem RepL.keys : ∀ {ds : List D} {vs : List V} {ks : List Key}, RepL K Γ S ds vs → ds.mapM keyD = some ks → vs = ks.map kV
  | [], vs, ks, r, h => by
    cases (show vs = [] from r)
    cases h; rfl
  | d :: ds, _, ks, ⟨v, ws, e, r, t⟩, h => by
    subst e
    rw [List.mapM_cons] at h
    cases q : keyD d with
    | none => rw [q] at h; cases h
    | some k =>
      cases q2 : ds.mapM keyD with
      | none => rw [q, q2] at h; cases h
      | some ks' =>
        rw [q, q2] at h
        cases h
        have e1 : v = kV k := by
          cases d with
          | int i => cases q; exact r
          | str x => cases q; exact r.1
          | _ => cases q
        rw [List.map_cons, ← RepL.keys t q2, e1]
theorem Rep.key {d : D} {v : V} {k : Key} (r : Rep K Γ S d v) (h : keyD d = some k) : v = kV k := by
  cases d with
  | int i => cases h; exact r
  | str x => cases h; exact r.1
  | _ => cases h
theorem Rep.keys {d : D} {v : V} {k : List Key} (r : Rep K Γ S d v) (h : keysD d = some k) : ∃ b, v = .ref b ∧ S b = some (.tup (k.map kV)) := by
  cases d with
  | tup ds =>
    obtain ⟨a, vs, e, hs, _, q⟩ := r
    exact ⟨a, e, by rw [hs, q.keys h]⟩
  | _ => cases h
theorem dget_k {kvs : List (Key × D)} {d : D} {v : V} {k : Key} {a : Addr} {vs : List (Key × V)} (r : Rep K Γ H d v) (h : keyD d = some k) (e : H a = some (.dK vs)) : DGet H a v (valV vs k) := by
  rw [r.key h]; exact DGet.k e
theorem dget_t {d : D} {v : V} {k : List Key} {a : Addr} {vs : List (List Key × V)} (r : Rep K Γ H d v) (h : keysD d = some k) (e : H a = some (.dT vs)) : DGet H a v (valV vs k) := by
  obtain ⟨b, rfl, eb⟩ := r.keys h
  exact DGet.t e eb
theorem look_some {kvs : List (Key × D)} {vs : List (Key × V)} (k : Key) (r : RepK K Γ S kvs vs) : (valV vs k).isSome = (lookK kvs k).isSome := by
  have h := valV_look k r
  cases q : lookK kvs k with
  | none => rw [q] at h; rw [h]; rfl
  | some d => rw [q] at h; obtain ⟨v, e, _⟩ := h; rw [e]; rfl
theorem lookT_some {kvs : List (List Key × D)} {vs : List (List Key × V)} (k : List Key) (r : RepT K Γ S kvs vs) : (valV vs k).isSome = (lookT kvs k).isSome := by
  have h := valV_lookT k r
  cases q : lookT kvs k with
  | none => rw [q] at h; rw [h]; rfl
  | some d => rw [q] at h; obtain ⟨v, e, _⟩ := h; rw [e]; rfl
end
section
variable {X : Cx} {Γ : CM}
theorem op_inP (hu : X.A.units + 64 < cLine) : OpR X (compareOp .In) (rInP X.K Γ false) := by
  intro pins s σ H x y v u Q I rx ry ⟨d, e, b, rd, re, eb, q⟩
  rw [if_neg Bool.false_ne_true] at q
  have seq : ∀ (ds : List D) (z : D) (hz : z.py = .list (D.pyL ds) ∨ z.py = .tuple (D.pyL ds)) (c : cmpOk z d = true), Rep X.K Γ H z y → b = (ds.any fun y => D.eqv y d) → wpAny (model X.prog X.w) X.A (compareOp .In v u) (EP X pins σ Q) X.xe s := fun ds z hz c rz hb => by
    obtain ⟨c1, c2, c3⟩ := cmpOk_and c
    obtain ⟨as, r1⟩ := Rep.reads I d x v rd rx c2
    obtain ⟨bs, r2⟩ := Rep.reads I z y u rz ry c1
    have fin : EP X pins σ Q (.bool ((D.pyL ds).any fun y => PyData.eqv y d.py)) s := ⟨.bl _, H, I, rfl, by rw [pyL_any, ← hb]; exact q⟩
    rcases hz with hz | hz
    · rw [hz] at r2 c1 c3
      exact PySem.SeqAt.in_list_data r2 r1 c1 c2 (by simp only [PyData.depth] at c3; omega) fin
    · rw [hz] at r2 c1 c3
      exact PySem.SeqAt.in_tuple_data r2 r1 c1 c2 (by simp only [PyData.depth] at c3; omega) fin
  cases e with
  | lst ds => obtain ⟨c, e⟩ := ite_some (show (if cmpOk (.lst ds) d = true then some (ds.any fun y => D.eqv y d) else none) = some b by cases d <;> exact eb); exact seq ds _ (.inl rfl) c re e.symm
  | tup ds => obtain ⟨c, e⟩ := ite_some (show (if cmpOk (.tup ds) d = true then some (ds.any fun y => D.eqv y d) else none) = some b by cases d <;> exact eb); exact seq ds _ (.inr rfl) c re e.symm
  | ktup ds => obtain ⟨c, e⟩ := ite_some (show (if cmpOk (.ktup ds) d = true then some (ds.any fun y => D.eqv y d) else none) = some b by cases d <;> exact eb); exact seq ds _ (.inr rfl) c re e.symm
  | str z =>
    cases d with
    | str w =>
      cases eb
      exact op_in_str pins s σ H x y v u Q I rx ry ⟨w, z, rd.1, re.1, q⟩
    | _ => cases eb
  | dicK kvs =>
    have eb : (keyD d).map (fun k => (lookK kvs k).isSome) = some b := by cases d <;> exact eb
    cases hk : keyD d with
    | none => rw [hk] at eb; cases eb
    | some k =>
      rw [hk] at eb
      obtain ⟨a, vs, rfl, h1, r1⟩ := re
      cases ry
      refine d_in (by omega) I (dget_k (kvs := kvs) rd hk h1) rx fun s' I' => ⟨.bl _, H, I', rfl, ?_⟩
      rw [look_some k r1, show (lookK kvs k).isSome = b from Option.some.inj eb]; exact q
  | dicT kvs =>
    have eb : (keysD d).map (fun k => (lookT kvs k).isSome) = some b := by cases d <;> exact eb
    cases hk : keysD d with
    | none => rw [hk] at eb; cases eb
    | some k =>
      rw [hk] at eb
      obtain ⟨a, vs, rfl, h1, r1⟩ := re
      cases ry
      refine d_in (by omega) I (dget_t rd hk h1) rx fun s' I' => ⟨.bl _, H, I', rfl, ?_⟩
      rw [lookT_some k r1, show (lookT kvs k).isSome = b from Option.some.inj eb]; exact q
  | _ => cases d <;> cases eb
theorem op_ninP (hu : X.A.units + 64 < cLine) : OpR X (compareOp .NotIn) (rInP X.K Γ true) := by
  intro pins s σ H x y v u Q I rx ry ⟨d, e, b, rd, re, eb, q⟩
  rw [if_pos rfl] at q
  have seq : ∀ (ds : List D) (z : D) (hz : z.py = .list (D.pyL ds) ∨ z.py = .tuple (D.pyL ds)) (c : cmpOk z d = true), Rep X.K Γ H z y → b = (ds.any fun y => D.eqv y d) → wpAny (model X.prog X.w) X.A (compareOp .NotIn v u) (EP X pins σ Q) X.xe s := fun ds z hz c rz hb => by
    obtain ⟨c1, c2, c3⟩ := cmpOk_and c
    obtain ⟨as, r1⟩ := Rep.reads I d x v rd rx c2
    obtain ⟨bs, r2⟩ := Rep.reads I z y u rz ry c1
    have fin : EP X pins σ Q (.bool (!(D.pyL ds).any fun y => PyData.eqv y d.py)) s := ⟨.bl _, H, I, rfl, by rw [pyL_any, ← hb]; exact q⟩
    rcases hz with hz | hz
    · rw [hz] at r2 c1 c3
      exact PySem.SeqAt.notIn_list_data r2 r1 c1 c2 (by simp only [PyData.depth] at c3; omega) fin
    · rw [hz] at r2 c1 c3
      exact PySem.SeqAt.notIn_tuple_data r2 r1 c1 c2 (by simp only [PyData.depth] at c3; omega) fin
  cases e with
  | lst ds => obtain ⟨c, e⟩ := ite_some (show (if cmpOk (.lst ds) d = true then some (ds.any fun y => D.eqv y d) else none) = some b by cases d <;> exact eb); exact seq ds _ (.inl rfl) c re e.symm
  | tup ds => obtain ⟨c, e⟩ := ite_some (show (if cmpOk (.tup ds) d = true then some (ds.any fun y => D.eqv y d) else none) = some b by cases d <;> exact eb); exact seq ds _ (.inr rfl) c re e.symm
  | ktup ds => obtain ⟨c, e⟩ := ite_some (show (if cmpOk (.ktup ds) d = true then some (ds.any fun y => D.eqv y d) else none) = some b by cases d <;> exact eb); exact seq ds _ (.inr rfl) c re e.symm
  | str z =>
    cases d with
    | str w =>
      cases eb
      exact op_notin_str pins s σ H x y v u Q I rx ry ⟨w, z, rd.1, re.1, q⟩
    | _ => cases eb
  | dicK kvs =>
    have eb : (keyD d).map (fun k => (lookK kvs k).isSome) = some b := by cases d <;> exact eb
    cases hk : keyD d with
    | none => rw [hk] at eb; cases eb
    | some k =>
      rw [hk] at eb
      obtain ⟨a, vs, rfl, h1, r1⟩ := re
      cases ry
      refine d_notIn (by omega) I (dget_k (kvs := kvs) rd hk h1) rx fun s' I' => ⟨.bl _, H, I', rfl, ?_⟩
      rw [look_some k r1, show (lookK kvs k).isSome = b from Option.some.inj eb]; exact q
  | dicT kvs =>
    have eb : (keysD d).map (fun k => (lookT kvs k).isSome) = some b := by cases d <;> exact eb
    cases hk : keysD d with
    | none => rw [hk] at eb; cases eb
    | some k =>
      rw [hk] at eb
      obtain ⟨a, vs, rfl, h1, r1⟩ := re
      cases ry
      refine d_notIn (by omega) I (dget_t rd hk h1) rx fun s' I' => ⟨.bl _, H, I', rfl, ?_⟩
      rw [lookT_some k r1, show (lookT kvs k).isSome = b from Option.some.inj eb]; exact q
  | _ => cases d <;> cases eb
theorem od_in (hu : X.A.units + 64 < cLine) : OpD Γ X (compareOp .In) (rInP X.K Γ false) opIn .sh :=
  ⟨op_inP hu, fun H0 S H ma mb a b d x y Q sh h0 ra rb e k => by
    cases q : opInB a b with
    | none => unfold opIn at e; rw [q] at e; cases e
    | some c =>
      unfold opIn at e; rw [q] at e; cases e
      exact ⟨a, b, c, ra.full sh h0, rb.full sh h0, q, k.flat sh rfl⟩⟩
theorem od_nin (hu : X.A.units + 64 < cLine) : OpD Γ X (compareOp .NotIn) (rInP X.K Γ true) opNin .sh :=
  ⟨op_ninP hu, fun H0 S H ma mb a b d x y Q sh h0 ra rb e k => by
    cases q : opInB a b with
    | none => unfold opNin at e; rw [q] at e; cases e
    | some c =>
      unfold opNin at e; rw [q] at e; cases e
      exact ⟨a, b, c, ra.full sh h0, rb.full sh h0, q, k.flat sh rfl⟩⟩

/-! ### a[b] -/
def opIx : D → D → Option D
  | .lst ds, .int i => atI ds i
  | .tup ds, .int i => atI ds i
  | .ktup ds, .int i => atI ds i
  | .scr ns, .int i => (atI ns i).map D.int
  | .str z, .int i => (atI z.cps.toList i).map fun c => D.str ⟨#[c]⟩
  | .dicK kvs, d => (keyD d).bind fun k => lookK kvs k
  | .dicT kvs, d => (keysD d).bind fun k => lookT kvs k
  | _, _ => none
theorem RepL.atI {K : PySem.W.Frag} {S : Hp} {ds : List D} {vs : List V} {i : Int} {d : D} (r : RepL K Γ S ds vs) (h : L2.atI ds i = some d) : ∃ v, L2.atI vs i = some v ∧ Rep K Γ S d v := by
  unfold L2.atI at h ⊢
  rw [r.length]
  cases q : ixN ds.length i with
  | none => rw [q] at h; cases h
  | some j =>
    rw [q, Option.bind_some] at h
    rw [Option.bind_some]
    exact r.get h
def rIxD2 : R2 := fun x y H Q => ∃ a v, x = .ref a ∧ DGet H a y (some v) ∧ Q v H
theorem ix_dict (hu : X.A.units + 1 < cLine) : IxR X rIxD2 := by
  intro value slice pins s σ H x y v u Q I rx ry ⟨a, z, e, g, q⟩ hs
  subst e
  cases rx
  exact PyProof.Rows.tail_any (dict_typeIs I g) PySem.F.slot_dict_getitem.lookup (d_getItem hu I g ry fun w' s' I' rw' => ⟨z, H, I', rw', q⟩) hs
def rIxA (K : PySem.W.Frag) : R2 := fun x y H Q => rIxL K x y H Q ∨ ((rIxT K x y H Q ∨ rIxS x y H Q) ∨ rIxD2 x y H Q)
theorem ix_all (hu : X.A.units + 1 < cLine) : IxR X (rIxA X.K) := ix_list.or ((ix_tup.or ix_str).or (ix_dict hu))
theorem atI_map {α β : Type} (g : α → β) (l : List α) (i : Int) : L2.atI (l.map g) i = (L2.atI l i).map g := by
  unfold L2.atI
  rw [List.length_map]
  cases ixN l.length i with
  | none => rfl
  | some j => rw [Option.bind_some, Option.bind_some, List.getElem?_map]
theorem snd_ix {K : PySem.W.Frag} : SndR2 K Γ (rIxA K) opIx .sh := fun H0 S H ma mb a b d x y Q sh h0 ra rb e k => by
  have dk : ∀ {kvs : List (Key × D)} {c : Key}, keyD b = some c → lookK kvs c = some d → (∃ p vs, x = .ref p ∧ H p = some (.dK vs) ∧ RepK K Γ S kvs vs) → rIxA K x y H Q := fun {kvs c} hk hl ⟨p, vs, e1, h1, r1⟩ => by
    have h := valV_look c r1
    rw [hl] at h
    obtain ⟨v, e, rv⟩ := h
    exact .inr (.inr ⟨p, v, e1, e ▸ dget_k (kvs := kvs) (rb.full sh h0) hk h1, k.flat sh rv⟩)
  have dt : ∀ {kvs : List (List Key × D)} {c : List Key}, keysD b = some c → lookT kvs c = some d → (∃ p vs, x = .ref p ∧ H p = some (.dT vs) ∧ RepT K Γ S kvs vs) → rIxA K x y H Q := fun {kvs c} hk hl ⟨p, vs, e1, h1, r1⟩ => by
    have h := valV_lookT c r1
    rw [hl] at h
    obtain ⟨v, e, rv⟩ := h
    exact .inr (.inr ⟨p, v, e1, e ▸ dget_t (rb.full sh h0) hk h1, k.flat sh rv⟩)
  cases a with
  | lst ds =>
    cases b with
    | int i =>
      obtain ⟨p, vs, e1, h1, l1, r1⟩ := ra.lst sh h0
      obtain ⟨v, e2, r2⟩ := r1.atI e
      exact .inl ⟨p, vs, i, v, e1, rb.int h0, SqL.of h1, e2, k.flat sh r2⟩
    | _ => cases e
  | tup ds =>
    cases b with
    | int i =>
      obtain ⟨p, vs, e1, h1, l1, r1⟩ := ra.tup h0
      obtain ⟨v, e2, r2⟩ := r1.atI e
      exact .inr (.inl (.inl ⟨p, vs, i, v, e1, rb.int h0, SqT.of (sh _ _ h1), e2, k.flat sh r2⟩))
    | _ => cases e
  | ktup ds =>
    cases b with
    | int i =>
      obtain ⟨p, vs, e1, h1, l1, r1⟩ := ra.ktup h0
      obtain ⟨v, e2, r2⟩ := r1.atI e
      exact .inr (.inl (.inl ⟨p, vs, i, v, e1, rb.int h0, Same.sqt sh h1, e2, k.flat sh r2⟩))
    | _ => cases e
  | scr ns =>
    cases b with
    | int i =>
      obtain ⟨p, e1, h1, l1⟩ := ra.scr h0
      have e : (L2.atI ns i).map D.int = some d := e
      cases q : L2.atI ns i with
      | none => rw [q] at e; cases e
      | some n =>
        rw [q] at e; cases e
        exact .inl ⟨p, _, i, .int n, e1, rb.int h0, sh.seq h1, by rw [atI_map, q]; rfl, k.flat sh rfl⟩
    | _ => cases e
  | str z =>
    cases b with
    | int i =>
      have e : (L2.atI z.cps.toList i).map (fun c => D.str ⟨#[c]⟩) = some d := e
      cases q : L2.atI z.cps.toList i with
      | none => rw [q] at e; cases e
      | some n =>
        rw [q] at e; cases e
        exact .inr (.inl (.inr ⟨z, i, n, (ra.str h0).1, rb.int h0, (ra.str h0).2, q, k.flat sh ⟨rfl, by show 1 ≤ sizeLine; decide⟩⟩))
    | _ => cases e
  | dicK kvs =>
    have e : (keyD b).bind (fun k => lookK kvs k) = some d := by cases b <;> exact e
    cases q : keyD b with
    | none => rw [q] at e; cases e
    | some c => rw [q] at e; exact dk q e (ra.dicK sh h0)
  | dicT kvs =>
    have e : (keysD b).bind (fun k => lookT kvs k) = some d := by cases b <;> exact e
    cases q : keysD b with
    | none => rw [q] at e; cases e
    | some c => rw [q] at e; exact dt q e (ra.dicT sh h0)
  | _ => cases b <;> cases e
end
section
variable {X : Cx} {Γ : CM} {M : List Mode} {e a b c : Expr} {t ta tb tc : TE} {f g h : Ev} {m ma mb mc : Mode} {pos : Pos}
theorem de_ix (hu : X.A.units + 64 < cLine) (ha : DE Γ X M a ta f ma) (hb : DE Γ X M b tb g mb) (hs : PlainIx b := by exact fun _ _ => rfl) : DE Γ X M (.Subscript a b pos) (tOp (rIxA X.K) ta tb) (v2 opIx f g) .sh :=
  ⟨pe_ix (ix_all (by omega)) ha.pe hb.pe hs, snd_op snd_ix ha.snd hb.snd⟩
/-! ### slices -/
def SndO (K : PySem.W.Frag) (Γ : CM) (M : List Mode) (t : TO) (f : Env → Option (Option Int)) : Prop :=
  ∀ S0 H0 S H σ δ Q o, Wd K Γ S0 H0 S H σ M δ → f δ = some o → (∀ S' H', Ext S H S' H' → Q o H') → t σ H Q
structure DO (Γ : CM) (X : Cx) (M : List Mode) (e : Option Expr) (t : TO) (f : Env → Option (Option Int)) : Prop where
  po : PO X e t
  snd : SndO X.K Γ M t f
theorem do_none : DO Γ X M none tNoPart (fun _ => some none) := ⟨po_none, fun S0 H0 S H σ δ Q o w e k => by cases e; exact k S H (Ext.refl w.sH)⟩
def vPart (f : Ev) : Env → Option (Option Int) := fun δ => (f δ).bind fun d => match d with | .int i => some (some i) | _ => none
theorem do_some (ha : DE Γ X M e t f m) : DO Γ X M (some e) (tPart t) (vPart f) := ⟨po_some ha.pe, fun S0 H0 S H σ δ Q o w ef k => by
  unfold vPart at ef
  cases q : f δ with
  | none => rw [q] at ef; cases ef
  | some d =>
    rw [q, Option.bind_some] at ef
    cases d with
    | int i =>
      cases ef
      exact ha.snd S0 H0 S H σ δ _ _ w q fun v S' H' e1 r _ => ⟨i, r.int (w.mono e1).h0, k S' H' e1⟩
    | _ => cases ef⟩
def cutD {α : Type} (xs : List α) (lo hi : Option Int) : List α := (xs.drop (HT.sIx xs.length 0 lo)).take (HT.sIx xs.length xs.length hi - HT.sIx xs.length 0 lo)
def opSl : D → Option Int → Option Int → Option D
  | .lst ds, lo, hi => some (.lst (cutD ds lo hi))
  | .scr ns, lo, hi => some (.lst (cutD (ns.map D.int) lo hi))
  | .str z, lo, hi => some (.str ⟨(cutD z.cps.toList lo hi).toArray⟩)
  | .tup ds, lo, hi => if HT.sIx ds.length 0 lo = 0 ∧ HT.sIx ds.length ds.length hi = ds.length then none else some (.tup (cutD ds lo hi))
  | _, _, _ => none
def opSlL : D → Option Int → Option Int → Option D
  | .lst ds, lo, hi => some (.lst (cutD ds lo hi))
  | _, _, _ => none
def vSl (o : D → Option Int → Option Int → Option D) (f : Ev) (l u : Env → Option (Option Int)) : Ev := fun δ => (f δ).bind fun d => (l δ).bind fun lo => (u δ).bind fun hi => o d lo hi
theorem cutD_len {α : Type} (xs : List α) (lo hi : Option Int) : (cutD xs lo hi).length ≤ xs.length := by
  unfold cutD
  rw [List.length_take, List.length_drop]; omega
theorem RepL.cut {K : PySem.W.Frag} {S : Hp} {ds : List D} {vs : List V} (r : RepL K Γ S ds vs) (lo hi : Option Int) : RepL K Γ S (cutD ds lo hi) (cutV vs lo hi) := by
  unfold cutD cutV
  rw [r.length]
  exact (r.drop _).take _
def rSlAll (K : PySem.W.Frag) : V → Option Int → Option Int → Hp → VK → Prop := fun x lo hi H Q => rSlL K x lo hi H Q ∨ (rSlS x lo hi H Q ∨ rSlT K x lo hi H Q)
theorem snd_sl {K : PySem.W.Frag} {tl th : TO} {l u : Env → Option (Option Int)} {r : V → Option Int → Option Int → Hp → VK → Prop} {o : D → Option Int → Option Int → Option D}
    (ho : ∀ H0 S H ma a lo hi d x Q, Same S H → Same H0 H → RepM K Γ H0 S H ma a x → o a lo hi = some d → Kont K Γ H0 S H m d Q → r x lo hi H Q)
    (sa : SndE K Γ M ta f ma) (sl : SndO K Γ M tl l) (su : SndO K Γ M th u) : SndE K Γ M (tSl r ta tl th) (vSl o f l u) m := fun S0 H0 S H σ δ Q d w ef k => by
  unfold vSl at ef
  cases p : f δ with
  | none => rw [p] at ef; cases ef
  | some a =>
    cases q : l δ with
    | none => rw [p, q] at ef; cases ef
    | some lo =>
      cases z : u δ with
      | none => rw [p, q, z] at ef; cases ef
      | some hi =>
        rw [p, q, z] at ef
        simp only [Option.bind_some] at ef
        refine sa S0 H0 S H σ δ _ _ w p fun v S1 H1 e1 r1 _ => ?_
        refine sl S0 H0 S1 H1 σ δ _ _ (w.mono e1) q fun S2 H2 e2 => ?_
        refine su S0 H0 S2 H2 σ δ _ _ ((w.mono e1).mono e2) z fun S3 H3 e3 => ?_
        exact ho H0 S3 H3 ma a lo hi d v Q e3.sh (((w.mono e1).mono e2).mono e3).h0 ((r1.mono e2).mono e3) ef (k.ext ((e1.trans e2).trans e3))
theorem de_sl {lo hi : Option Expr} {tl th : TO} {l u : Env → Option (Option Int)} {p2 : Pos} (ha : DE Γ X M a ta f ma) (hl : DO Γ X M lo tl l) (hh : DO Γ X M hi th u) : DE Γ X M (.Subscript a (.Slice lo hi none p2) pos) (tSl (rSlAll X.K) ta tl th) (vSl opSl f l u) .sh :=
  ⟨pe_slice (sl_list.or (sl_str.or sl_tup)) ha.pe hl.po hh.po, snd_sl (fun H0 S H ma a lo hi d x Q sh h0 ra e k => by
    cases a with
    | lst ds =>
      cases e
      obtain ⟨p, vs, e1, h1, l1, r1⟩ := ra.lst sh h0
      exact .inl ⟨p, vs, e1, SqL.of h1, fun t ht => k.newL rfl sh (Nat.le_trans (cutD_len ..) l1) (r1.cut lo hi) ht⟩
    | scr ns =>
      cases e
      obtain ⟨p, e1, h1, l1⟩ := ra.scr h0
      have l2 : (ns.map D.int).length ≤ 63 := by rw [List.length_map]; exact l1
      exact .inl ⟨p, _, e1, sh.seq h1, fun t ht => k.newL rfl sh (Nat.le_trans (cutD_len ..) (Nat.le_trans l2 (by decide))) ((RepL.ints ns).cut lo hi) ht⟩
    | str z =>
      cases e
      refine .inr (.inl ⟨z, (ra.str h0).1, (ra.str h0).2, k.flat sh ⟨?_, ?_⟩⟩)
      · have : z.cps.toList.length = z.length := by simp [Str.length]
        unfold cutS cutD
        rw [this]
      · refine Nat.le_trans ?_ (ra.str h0).2
        show ((cutD z.cps.toList lo hi).toArray).size ≤ z.cps.size
        rw [List.size_toArray]
        exact Nat.le_trans (cutD_len ..) (by simp)
    | tup ds =>
      have e : (if HT.sIx ds.length 0 lo = 0 ∧ HT.sIx ds.length ds.length hi = ds.length then none else some (D.tup (cutD ds lo hi))) = some d := e
      obtain ⟨p, vs, e1, h1, l1, r1⟩ := ra.tup h0
      split at e
      · cases e
      · rename_i c
        cases e
        exact .inr (.inr ⟨p, vs, e1, SqT.of (sh _ _ h1), by rw [r1.length]; exact c, fun t ht => k.newT sh (Nat.le_trans (cutD_len ..) l1) (r1.cut lo hi) ht⟩)
    | _ => cases e) ha.snd hl.snd hh.snd⟩
theorem de_slL {lo hi : Option Expr} {tl th : TO} {l u : Env → Option (Option Int)} {p2 : Pos} (ha : DE Γ X M a ta f ma) (hl : DO Γ X M lo tl l) (hh : DO Γ X M hi th u) : DE Γ X M (.Subscript a (.Slice lo hi none p2) pos) (tSl (rSlL X.K) ta tl th) (vSl opSlL f l u) .ow :=
  ⟨pe_slice sl_list ha.pe hl.po hh.po, snd_sl (fun H0 S H ma a lo hi d x Q sh h0 ra e k => by
    cases a with
    | lst ds =>
      cases e
      obtain ⟨p, vs, e1, h1, l1, r1⟩ := ra.lst sh h0
      exact ⟨p, vs, e1, SqL.of h1, fun t ht => k.newL rfl sh (Nat.le_trans (cutD_len ..) l1) (r1.cut lo hi) ht⟩
    | _ => cases e) ha.snd hl.snd hh.snd⟩
end
end Dl
/-! tests, displays, fields, calls, statements. -/
namespace Dl
open PySem L2
section
variable {X : Cx} {Γ : CM} {M : List Mode} {e a b c : Expr} {t ta tb tc : TE} {f g h : Ev} {m ma mb mc : Mode} {pos : Pos} {rest : List Expr} {tA tB' : TT} {p q : Env → Option Bool}
/-! ### tests -/
def bAnd (p q : Env → Option Bool) : Env → Option Bool := fun δ => (p δ).bind fun b => if b = true then q δ else some false
def bOr (p q : Env → Option Bool) : Env → Option Bool := fun δ => (p δ).bind fun b => if b = true then some true else q δ
def bNot (p : Env → Option Bool) : Env → Option Bool := fun δ => (p δ).map (!·)
theorem bind_some {α β : Type} {o : Option α} {k : α → Option β} {d : β} (h : o.bind k = some d) : ∃ a, o = some a ∧ k a = some d := by
  cases o with
  | none => cases h
  | some a => exact ⟨a, rfl, h⟩
theorem snd_and {K : PySem.W.Frag} (s : SndT K Γ M tA p) (u : SndT K Γ M tB' q) : SndT K Γ M (tAnd tA tB') (bAnd p q) := fun S0 H0 S H σ δ Q b w ef k => by
  obtain ⟨c, e1, e2⟩ := bind_some ef
  refine s S0 H0 S H σ δ _ c w e1 fun S1 H1 x1 => ?_
  cases c with
  | true => rw [if_pos rfl] at e2 ⊢; exact u S0 H0 S1 H1 σ δ Q b (w.mono x1) e2 fun S2 H2 x2 => k S2 H2 (x1.trans x2)
  | false => rw [if_neg Bool.false_ne_true] at e2 ⊢; cases e2; exact k S1 H1 x1
theorem snd_or {K : PySem.W.Frag} (s : SndT K Γ M tA p) (u : SndT K Γ M tB' q) : SndT K Γ M (tOr tA tB') (bOr p q) := fun S0 H0 S H σ δ Q b w ef k => by
  obtain ⟨c, e1, e2⟩ := bind_some ef
  refine s S0 H0 S H σ δ _ c w e1 fun S1 H1 x1 => ?_
  cases c with
  | false => rw [if_neg Bool.false_ne_true] at e2 ⊢; exact u S0 H0 S1 H1 σ δ Q b (w.mono x1) e2 fun S2 H2 x2 => k S2 H2 (x1.trans x2)
  | true => rw [if_pos rfl] at e2 ⊢; cases e2; exact k S1 H1 x1
theorem dw_and1 (h : DT Γ X M a tA p) : DW Γ X M (.BoolOp .And [a] pos) tA p := ⟨pw_and1 h.pt, h.snd⟩
theorem dw_or1 (h : DT Γ X M a tA p) : DW Γ X M (.BoolOp .Or [a] pos) tA p := ⟨pw_or1 h.pt, h.snd⟩
theorem dw_and (h : DT Γ X M a tA p) (h2 : DW Γ X M (.BoolOp .And (b :: rest) pos) tB' q) : DW Γ X M (.BoolOp .And (a :: b :: rest) pos) (tAnd tA tB') (bAnd p q) := ⟨pw_and h.pt h2.pw, snd_and h.snd h2.snd⟩
theorem dw_or (h : DT Γ X M a tA p) (h2 : DW Γ X M (.BoolOp .Or (b :: rest) pos) tB' q) : DW Γ X M (.BoolOp .Or (a :: b :: rest) pos) (tOr tA tB') (bOr p q) := ⟨pw_or h.pt h2.pw, snd_or h.snd h2.snd⟩
theorem DW.dt (h : DW Γ X M e tA p) : DT Γ X M e tA p := ⟨h.pw.pt, h.snd⟩
theorem dt_not (h : DT Γ X M a tA p) : DT Γ X M (.UnaryOp .Not a pos) (tNot tA) (bNot p) := ⟨pt_not h.pt, fun S0 H0 S H σ δ Q b w ef k => by
  unfold bNot at ef
  cases z : p δ with
  | none => rw [z] at ef; cases ef
  | some c => rw [z] at ef; cases ef; exact h.snd S0 H0 S H σ δ _ c w z fun S1 H1 x1 => k S1 H1 x1⟩
/-- .. as values (truths) -/
def vAnd (f g : Ev) : Ev := fun δ => (vTst f δ).bind fun b => if b = true then g δ else some (.bl false)
def vOr (f g : Ev) : Ev := fun δ => (vTst f δ).bind fun b => if b = true then some (.bl true) else g δ
def vNot (f : Ev) : Ev := fun δ => (vTst f δ).map fun b => .bl (!b)
theorem de_one {op} (h : DE Γ X M a t f m) (hm : okS m = true := by rfl) : DE Γ X M (.BoolOp op [a] pos) t f .sh := ⟨pe_one h.pe, h.snd.sh hm⟩
theorem de_and (ha : DE Γ X M a ta f ma) (hb : DE Γ X M (.BoolOp .And (b :: rest) pos) tb g .sh) : DE Γ X M (.BoolOp .And (a :: b :: rest) pos) (tAndV ta tb) (vAnd f g) .sh := ⟨pe_and ha.pe hb.pe, fun S0 H0 S H σ δ Q d w ef k => by
  obtain ⟨c, e1, e2⟩ := bind_some ef
  refine ha.snd S0 H0 S H σ δ _ _ w (vTst_some e1) fun v S1 H1 x1 r1 _ => ⟨c, r1.bl (w.mono x1).h0, ?_⟩
  cases c with
  | true => rw [if_pos rfl] at e2 ⊢; exact hb.snd S0 H0 S1 H1 σ δ Q d (w.mono x1) e2 (k.ext x1)
  | false => rw [if_neg Bool.false_ne_true] at e2 ⊢; cases e2; exact (k.ext x1).flat x1.sh rfl⟩
theorem de_or (ha : DE Γ X M a ta f ma) (hb : DE Γ X M (.BoolOp .Or (b :: rest) pos) tb g .sh) : DE Γ X M (.BoolOp .Or (a :: b :: rest) pos) (tOrV ta tb) (vOr f g) .sh := ⟨pe_or ha.pe hb.pe, fun S0 H0 S H σ δ Q d w ef k => by
  obtain ⟨c, e1, e2⟩ := bind_some ef
  refine ha.snd S0 H0 S H σ δ _ _ w (vTst_some e1) fun v S1 H1 x1 r1 _ => ⟨c, r1.bl (w.mono x1).h0, ?_⟩
  cases c with
  | false => rw [if_neg Bool.false_ne_true] at e2 ⊢; exact hb.snd S0 H0 S1 H1 σ δ Q d (w.mono x1) e2 (k.ext x1)
  | true => rw [if_pos rfl] at e2 ⊢; cases e2; exact (k.ext x1).flat x1.sh rfl⟩
theorem de_not (ha : DE Γ X M a ta f ma) : DE Γ X M (.UnaryOp .Not a pos) (tNotV ta) (vNot f) .sh := ⟨pe_not ha.pe, fun S0 H0 S H σ δ Q d w ef k => by
  unfold vNot at ef
  cases z : vTst f δ with
  | none => rw [z] at ef; cases ef
  | some c =>
    rw [z] at ef; cases ef
    exact ha.snd S0 H0 S H σ δ _ _ w (vTst_some z) fun v S1 H1 x1 r1 _ => ⟨c, r1.bl (w.mono x1).h0, (k.ext x1).flat x1.sh rfl⟩⟩
def vIf (p : Env → Option Bool) (f g : Ev) : Ev := fun δ => (p δ).bind fun b => if b = true then f δ else g δ
theorem de_ifExp (hc : DT Γ X M c tA p) (ha : DE Γ X M a ta f m) (hb : DE Γ X M b tb g m) : DE Γ X M (.IfExp c a b pos) (tIf tA ta tb) (vIf p f g) m := ⟨pe_ifExp hc.pt ha.pe hb.pe, fun S0 H0 S H σ δ Q d w ef k => by
  obtain ⟨c, e1, e2⟩ := bind_some ef
  refine hc.snd S0 H0 S H σ δ _ _ w e1 fun S1 H1 x1 => ?_
  cases c with
  | true => rw [if_pos rfl] at e2 ⊢; exact ha.snd S0 H0 S1 H1 σ δ Q d (w.mono x1) e2 (k.ext x1)
  | false => rw [if_neg Bool.false_ne_true] at e2 ⊢; exact hb.snd S0 H0 S1 H1 σ δ Q d (w.mono x1) e2 (k.ext x1)⟩
theorem DE.sh (h : DE Γ X M e t f m) (hm : okS m = true := by rfl) : DE Γ X M e t f .sh := ⟨h.pe, h.snd.sh hm⟩
/-! -a -/
def vNeg (f : Ev) : Ev := fun δ => (f δ).bind fun d => match d with | .int i => some (.int (-i)) | _ => none
theorem de_neg (ha : DE Γ X M a ta f ma) : DE Γ X M (.UnaryOp .USub a pos) (fun σ H Q => ta σ H fun x H1 => rU (fun i => .int (-i)) x H1 Q) (vNeg f) .sh := ⟨pe_un un_neg ha.pe, fun S0 H0 S H σ δ Q d w ef k => by
  obtain ⟨c, e1, e2⟩ := bind_some ef
  refine ha.snd S0 H0 S H σ δ _ _ w e1 fun v S1 H1 x1 r1 _ => ?_
  cases c with
  | int i => cases e2; exact ⟨i, r1.int (w.mono x1).h0, (k.ext x1).flat x1.sh rfl⟩
  | _ => cases e2⟩
end

/-! ### argument lists -/
def ArgM (K : PySem.W.Frag) (Γ : CM) (S H : Hp) (m : Mode) (d : D) (v : V) : Prop := match m with
  | .sh => Rep K Γ S d v
  | _ => Rep K Γ S d v ∨ ∃ a, v = .ref a ∧ TopAt K Γ S H a d
theorem ArgM.mono {K : PySem.W.Frag} {Γ : CM} {S H S' H' : Hp} {m : Mode} {d : D} {v : V} (e : Ext S H S' H') (r : ArgM K Γ S H m d v) : ArgM K Γ S' H' m d v := by
  cases m with
  | sh => exact Rep.mono e.ss r
  | _ =>
    rcases r with r | ⟨a, ev, t⟩
    · exact .inl (Rep.mono e.ss r)
    · exact .inr ⟨a, ev, t.mono e.ss e.hh⟩
def ArgMs (K : PySem.W.Frag) (Γ : CM) (S H : Hp) : List Mode → List D → List V → Prop
  | [], ds, vs => ds = [] ∧ vs = []
  | m :: ms, ds, vs => ∃ d ds' v vs', ds = d :: ds' ∧ vs = v :: vs' ∧ ArgM K Γ S H m d v ∧ ArgMs K Γ S H ms ds' vs'
theorem ArgMs.mono {K : PySem.W.Frag} {Γ : CM} {S H S' H' : Hp} (e : Ext S H S' H') : ∀ {ms : List Mode} {ds : List D} {vs : List V}, ArgMs K Γ S H ms ds vs → ArgMs K Γ S' H' ms ds vs
  | [], _, _, h => h
  | m :: ms, _, _, ⟨d, ds', v, vs', e1, e2, r, t⟩ => ⟨d, ds', v, vs', e1, e2, r.mono e, ArgMs.mono e t⟩
theorem ArgMs.len {K : PySem.W.Frag} {Γ : CM} {S H : Hp} : ∀ {ms : List Mode} {ds : List D} {vs : List V}, ArgMs K Γ S H ms ds vs → vs.length = ms.length ∧ ds.length = ms.length
  | [], _, _, ⟨e, e'⟩ => by subst e e'; exact ⟨rfl, rfl⟩
  | m :: ms, _, _, ⟨d, ds', v, vs', e1, e2, r, t⟩ => by
    obtain ⟨h1, h2⟩ := ArgMs.len t
    subst e1 e2
    exact ⟨by rw [List.length_cons, List.length_cons, h1], by rw [List.length_cons, List.length_cons, h2]⟩
theorem ArgMs.all_sh {K : PySem.W.Frag} {Γ : CM} {S H : Hp} : ∀ {ms : List Mode} {ds : List D} {vs : List V}, ms.all (· == .sh) = true → ArgMs K Γ S H ms ds vs → RepL K Γ S ds vs
  | [], _, _, _, ⟨e, e'⟩ => by subst e e'; rfl
  | m :: ms, _, _, h, ⟨d, ds', v, vs', e1, e2, r, t⟩ => by
    subst e1 e2
    rw [List.all_cons, Bool.and_eq_true] at h
    have em : m = .sh := by simpa using h.1
    subst em
    exact ⟨v, vs', rfl, r, ArgMs.all_sh h.2 t⟩
def SndAr (K : PySem.W.Frag) (Γ : CM) (M : List Mode) (t : TA) (f : Env → Option (List D)) (ms : List Mode) : Prop :=
  ∀ S0 H0 S H σ δ Q ds, Wd K Γ S0 H0 S H σ M δ → f δ = some ds → (∀ vs S' H', Ext S H S' H' → ArgMs K Γ S' H' ms ds vs → Q vs H') → t σ H Q
structure DAr (Γ : CM) (X : Cx) (M : List Mode) (es : List Expr) (t : TA) (f : Env → Option (List D)) (ms : List Mode) : Prop where
  pa : PA X es t
  snd : SndAr X.K Γ M t f ms
def leM : Mode → Mode → Bool
  | m, .sh => okS m
  | _, .bo => true
  | _, _ => false
section
variable {X : Cx} {Γ : CM} {M : List Mode} {e a b c : Expr} {es : List Expr} {t ta tb tc : TE} {tr : TA} {f g h : Ev} {fr : Env → Option (List D)} {m m' ma mb mc : Mode} {ms : List Mode} {pos : Pos}
def aNil : Env → Option (List D) := fun _ => some []
def aCons (f : Ev) (g : Env → Option (List D)) : Env → Option (List D) := fun δ => (f δ).bind fun d => (g δ).map (d :: ·)
theorem da_nil : DAr Γ X M [] tNil aNil [] := ⟨pa_nil, fun S0 H0 S H σ δ Q ds w ef k => by cases ef; exact k [] S H (Ext.refl w.sH) ⟨rfl, rfl⟩⟩
theorem da_cons (ha : DE Γ X M e t f m) (hr : DAr Γ X M es tr fr ms) (hm : leM m m' = true := by rfl) (hs : starEach (e :: es) X.env = (false, eval e X.env) :: starEach es X.env := by rfl) : DAr Γ X M (e :: es) (tCons t tr) (aCons f fr) (m' :: ms) :=
  ⟨pa_cons ha.pe hr.pa hs, fun S0 H0 S H σ δ Q ds w ef k => by
    obtain ⟨d, e1, e2⟩ := bind_some ef
    cases z : fr δ with
    | none => rw [z] at e2; cases e2
    | some dr =>
      rw [z] at e2; cases e2
      have go : ∀ v S1 H1, Ext S H S1 H1 → ArgM X.K Γ S1 H1 m' d v → tr σ H1 fun xs H2 => Q (v :: xs) H2 := fun v S1 H1 x1 r1 =>
        hr.snd S0 H0 S1 H1 σ δ _ dr (w.mono x1) z fun vs S2 H2 x2 r2 => k (v :: vs) S2 H2 (x1.trans x2) ⟨d, dr, v, vs, rfl, rfl, r1.mono x2, r2⟩
      cases m' with
      | sh => exact (ha.snd.sh hm) S0 H0 S H σ δ _ d w e1 fun v S1 H1 x1 r1 _ => go v S1 H1 x1 r1
      | bo => exact ha.snd S0 H0 S H σ δ _ d w e1 fun v S1 H1 x1 r1 _ => go v S1 H1 x1 (r1.rd (w.mono x1).h0)
      | _ => cases m <;> cases hm⟩
/-! ### displays -/
def vLst (f : Env → Option (List D)) : Ev := fun δ => (f δ).bind fun ds => if ds.length ≤ 1000 then some (.lst ds) else none
def vTup (f : Env → Option (List D)) : Ev := fun δ => (f δ).bind fun ds => if ds.length ≤ 1000 then some (.tup ds) else none
theorem le1000 {n : Nat} (h : n ≤ 1000) : n ≤ sizeLine := Nat.le_of_lt (small1000 h)
theorem de_lst (ha : DAr Γ X M es tr fr ms) (hm : ms.all (· == .sh) = true := by rfl) : DE Γ X M (.List es pos) (tLst tr) (vLst fr) .ow := ⟨pe_lst ha.pa, fun S0 H0 S H σ δ Q d w ef k => by
  obtain ⟨ds, e1, e2⟩ := bind_some ef
  obtain ⟨hl, rfl⟩ := ite_some e2
  refine ha.snd S0 H0 S H σ δ _ ds w e1 fun vs S1 H1 x1 r1 => ⟨by rw [(r1.len).1, ← (r1.len).2]; exact le1000 hl, fun p hp => ?_⟩
  exact (k.ext x1).newL rfl x1.sh (le1000 hl) (ArgMs.all_sh hm r1) hp⟩
theorem de_tup {x1} (ha : DAr Γ X M es tr fr ms) (hm : ms.all (· == .sh) = true := by rfl) : DE Γ X M (.Tuple es x1 pos) (tTup tr) (vTup fr) .sh := ⟨pe_tup ha.pa, fun S0 H0 S H σ δ Q d w ef k => by
  obtain ⟨ds, e1, e2⟩ := bind_some ef
  obtain ⟨hl, rfl⟩ := ite_some e2
  refine ha.snd S0 H0 S H σ δ _ ds w e1 fun vs S1 H1 x1 r1 => ⟨by rw [(r1.len).1, ← (r1.len).2]; exact le1000 hl, fun p hp => ?_⟩
  exact (k.ext x1).newT x1.sh (le1000 hl) (ArgMs.all_sh hm r1) hp⟩
/-! ### fields -/
def fldsD : D → Option (List (Str × D))
  | .ins _ fs => some fs
  | .slf _ _ fs => some fs
  | _ => none
def vFld (x : Str) (f : Ev) : Ev := fun δ => (f δ).bind fun d => (fldsD d).bind fun fs => fs.lookup x
theorem RepF.look {K : PySem.W.Frag} {S : Hp} {x : Str} : ∀ {fs : List (Str × D)} {ws : List (Str × V)} {d : D}, RepF K Γ S fs ws → fs.lookup x = some d → ∃ v, ws.lookup x = some v ∧ Rep K Γ S d v
  | [], _, _, _, h => by cases h
  | (n, y) :: fs, _, d, ⟨v, ws, e, r, t⟩, h => by
    subst e
    rw [List.lookup_cons] at h ⊢
    cases q : x == n with
    | true => rw [q] at h; cases h; exact ⟨v, rfl, r⟩
    | false => rw [q] at h; exact RepF.look t h
/-- what is told of the classes: each class in Γ, its fields' names free -/
structure ClsOk (K : PySem.W.Frag) (Γ : CM) (c : Str) (x : Str) : Prop where
  ok : ∀ C, iM Γ c = some C → Cls K C ∧ NoAttr K C x
  mu : Γ.mu c x = .sh
theorem de_fld {x : Str} (T : ∀ c, ClsOk X.K Γ c x) (ha : DE Γ X M e t f m) (hb : attributeBase e x X.env (eval e X.env) = eval e X.env := by rfl) : DE Γ X M (.Attribute e x pos) (tFld X.K t x) (vFld x f) .sh := ⟨pe_fld ha.pe hb, fun S0 H0 S H σ δ Q d w ef k => by
  obtain ⟨o, e1, e3⟩ := bind_some ef
  obtain ⟨fs, e4, e2⟩ := bind_some e3
  cases o with
  | ins c fs' =>
    cases e4
    refine ha.snd S0 H0 S H σ δ _ _ w e1 fun v S1 H1 x1 r1 _ => ?_
    obtain ⟨a, C, dx, ws, ev, g, h, r⟩ := r1.ins x1.sh (w.mono x1).h0
    rcases r with ⟨_, r⟩ | r
    · obtain ⟨z, ez, rz⟩ := r.look e2
      exact ⟨a, C, dx, ws, z, ev, h, ((T c).ok C g).1, ((T c).ok C g).2, ez, (k.ext x1).flat x1.sh rz⟩
    · obtain ⟨z, ez, rz⟩ := r.look e2
      rw [(T c).mu] at rz
      exact ⟨a, C, dx, ws, z, ev, h, ((T c).ok C g).1, ((T c).ok C g).2, ez, (k.ext x1).flat x1.sh rz⟩
  | slf b c fs' =>
    cases e4
    refine ha.snd S0 H0 S H σ δ _ _ w e1 fun v S1 H1 x1 r1 _ => ?_
    rcases r1.rd (w.mono x1).h0 with ⟨a, C, dx, ws, ev, g, h, r, _⟩ | ⟨a, ev, C, dx, ws, h, g, r, _⟩
    · obtain ⟨z, ez, rz⟩ := r.look e2
      exact ⟨a, C, dx, ws, z, ev, x1.sh _ _ h, ((T c).ok C g).1, ((T c).ok C g).2, ez, (k.ext x1).flat x1.sh rz⟩
    · obtain ⟨z, ez, rz⟩ := r.look e2
      exact ⟨a, C, dx, ws, z, ev, h, ((T c).ok C g).1, ((T c).ok C g).2, ez, (k.ext x1).flat x1.sh rz⟩
  | _ => cases e4⟩
/-! ### calls by values -/
def SndC (K : PySem.W.Frag) (Γ : CM) (r : List V → Hp → VK → Prop) (op : List D → Option D) (ms : List Mode) (m : Mode) : Prop :=
  ∀ S H ds vs d Q, Same S H → ArgMs K Γ S H ms ds vs → op ds = some d → Kont K Γ H S H m d Q → r vs H Q
structure CD (Γ : CM) (X : Cx) (f : Value) (r : List V → Hp → VK → Prop) (op : List D → Option D) (ms : List Mode) (m : Mode) : Prop where
  call : CallR X f r
  snd : SndC X.K Γ r op ms m
def vC1 (op : List D → Option D) (f : Env → Option (List D)) : Ev := fun δ => (f δ).bind op
theorem Kont.h0 {K : PySem.W.Frag} {S H H1 H2 : Hp} {d : D} {Q : VK} (k : Kont K Γ H1 S H m d Q) (hm : okS m = true) : Kont K Γ H2 S H m d Q := fun v S' H' e r f => by
  cases m with
  | sh => exact k v S' H' e r f
  | ow => exact k v S' H' e r f
  | _ => cases hm
theorem snd_c1 {K : PySem.W.Frag} {r : List V → Hp → VK → Prop} {op : List D → Option D} (hm : okS m = true) (o : SndC K Γ r op ms m) (s : SndAr K Γ M tr fr ms) : SndE K Γ M (tCB r tr) (vC1 op fr) m := fun S0 H0 S H σ δ Q d w ef k => by
  obtain ⟨ds, e1, e2⟩ := bind_some ef
  exact s S0 H0 S H σ δ _ ds w e1 fun vs S1 H1 x1 r1 => o S1 H1 ds vs d Q x1.sh r1 e2 ((k.ext x1).h0 hm)
theorem de_callB {x : Str} {p : Pos} {id : String} {r : List V → Hp → VK → Prop} {op : List D → Option D} (hc : CD Γ X (.builtin id) r op ms m) (hg : Gl X x) (hn : X.mg x = none) (hv : bootBuiltins x = some (.builtin id)) (ha : DAr Γ X M (e :: es) tr fr ms) (hm : okS m = true := by rfl)
    (h1 : x ≠ ("__name__" : Str) := by decide) (h2 : (x == ("__debug__" : Str)) = false := by decide) (h3 : starEach (e :: es) X.env = (false, eval e X.env) :: starEach es X.env := by rfl) (h4 : (backTo pos (starEach es X.env)).any (·.1) = false := by rfl) :
    DE Γ X M (.Call (.Name x p) (e :: es) [] pos) (tCB r tr) (vC1 op fr) m := ⟨pe_callB hc.call hg hn hv ha.pa h1 h2 h3 h4, snd_c1 hm hc.snd ha.snd⟩
theorem de_callTy {x : Str} {p : Pos} {T : String} {r : List V → Hp → VK → Prop} {op : List D → Option D} (hc : CD Γ X (.type T) r op ms m) (hg : Gl X x) (hn : X.mg x = none) (hv : bootBuiltins x = some (.type T)) (ha : DAr Γ X M (e :: es) tr fr ms) (hm : okS m = true := by rfl)
    (h1 : x ≠ ("__name__" : Str) := by decide) (h2 : (x == ("__debug__" : Str)) = false := by decide) (h3 : starEach (e :: es) X.env = (false, eval e X.env) :: starEach es X.env := by rfl) (h4 : (backTo pos (starEach es X.env)).any (·.1) = false := by rfl) :
    DE Γ X M (.Call (.Name x p) (e :: es) [] pos) (tCB r tr) (vC1 op fr) m := ⟨pe_callTy hc.call hg hn hv ha.pa h1 h2 h3 h4, snd_c1 hm hc.snd ha.snd⟩

/-! ### calls of the program's defs -/
/-- a def's promise by its denotation -/
def spD (K : PySem.W.Frag) (Γ : CM) (pm : List Mode) (rm : Mode) (den : List D → Option D) : Sp := fun vs H Q _ =>
  ∃ S ds r, Same S H ∧ ArgMs K Γ S H pm ds vs ∧ den ds = some r ∧ Kont K Γ H S H rm r Q
theorem snd_call {K : PySem.W.Frag} {pm : List Mode} {den : List D → Option D} {E : XK} (hm : okS m = true) (s : SndAr K Γ M tr fr pm) : SndE K Γ M (tCall (spD K Γ pm m den) [] E tr) (vC1 den fr) m := fun S0 H0 S H σ δ Q d w ef k => by
  obtain ⟨ds, e1, e2⟩ := bind_some ef
  refine s S0 H0 S H σ δ _ ds w e1 fun vs S1 H1 x1 r1 => ?_
  show spD K Γ pm m den (vs ++ []) H1 Q E
  rw [List.append_nil]
  exact ⟨S1, ds, d, x1.sh, r1, e2, (k.ext x1).h0 hm⟩
theorem de_call {fa : Addr} {fd : FuncData} {ps : List Str} {k : Nat} {x : Str} {p : Pos} {pm : List Mode} {den : List D → Option D} (F : FnOk X.prog X.w X.K X.mg X.base CX0 k fa fd ps (spD X.K Γ pm m den)) (hr : Room k X.A) (hg : Gl X x) (hx : X.mg x = some (.ref fa)) (hk : PySem.W.keepIn X.K (.ref fa) = true) (hb : Binds X.K fd ps [])
    (ha : DAr Γ X M (e :: es) tr fr pm) (hm : okS m = true := by rfl) (h2 : (x == ("__debug__" : Str)) = false := by decide) (h3 : starEach (e :: es) X.env = (false, eval e X.env) :: starEach es X.env := by rfl) (h4 : (backTo pos (starEach es X.env)).any (·.1) = false := by rfl) :
    DE Γ X M (.Call (.Name x p) (e :: es) [] pos) (tCall (spD X.K Γ pm m den) [] E0 tr) (vC1 den fr) m := ⟨pe_call F hr hg hx hk hb .nil pass0 ha.pa h2 h3 h4, snd_call hm ha.snd⟩
end

/-! ### statements -/
inductive Out where
  | nx (δ : Env) | rt (d : D) | ex (c : Str) (fs : List (Str × D))
abbrev Sv := Env → Option Out
def RepX (K : PySem.W.Frag) (Γ : CM) (S H : Hp) (c : Str) (fs : List (Str × D)) (cls : Value) (dd : Option Addr) : Prop :=
  ∃ C, Γ c = some C ∧ cls = .ref C ∧ ((fs = [] ∧ dd = none) ∨ fs ≠ [] ∧ ∃ d ws, dd = some d ∧ H d = some (.xd ws) ∧ RepF K Γ S fs ws)
/-- the slots out of ws are as they were -/
def Fr (ws : List Nat) (σ σ' : St) : Prop := σ'.length = σ.length ∧ ∀ j, j ∉ ws → σ'[j]? = σ[j]?
theorem Fr.refl {ws : List Nat} {σ : St} : Fr ws σ σ := ⟨rfl, fun _ _ => rfl⟩
theorem Fr.trans {ws ws' : List Nat} {σ σ1 σ2 : St} (a : Fr ws σ σ1) (b : Fr ws' σ1 σ2) : Fr (ws ++ ws') σ σ2 := ⟨b.1.trans a.1, fun j h => (b.2 j fun z => h (List.mem_append_right _ z)).trans (a.2 j fun z => h (List.mem_append_left _ z))⟩
theorem Fr.same {ws : List Nat} {σ σ1 σ2 : St} (a : Fr ws σ σ1) (b : Fr ws σ1 σ2) : Fr ws σ σ2 := ⟨b.1.trans a.1, fun j h => (b.2 j h).trans (a.2 j h)⟩
theorem Fr.up {ws ws' : List Nat} {σ σ1 : St} (a : Fr ws σ σ1) (h : ∀ j ∈ ws, j ∈ ws') : Fr ws' σ σ1 := ⟨a.1, fun j q => a.2 j fun z => q (h j z)⟩
theorem Fr.set {i : Nat} {σ : St} {o : Option V} : Fr [i] σ (σ.set i o) := ⟨List.length_set, fun j h => List.getElem?_set_ne (fun e => h (by rw [e]; exact List.mem_singleton.mpr rfl))⟩
/-- how a suite ends: the result's mode; the slots that are handed back, too; those that are told where it is refused -/
structure RM where
  m : Mode
  io : List Nat
  xo : List Nat
@[reducible] def RM.sh : RM := ⟨.sh, [], []⟩
@[reducible] def RM.ow : RM := ⟨.ow, [], []⟩
@[reducible] def RM.bo : RM := ⟨.bo, [], []⟩
def ioD : List Nat → Env → Option (List D)
  | [], _ => some []
  | i :: is, δ => (vVar i δ).bind fun d => (ioD is δ).map (d :: ·)
def pkR (io : List Nat) (d : D) (δ : Env) : Option D := (ioD io δ).map fun ds => .tup (d :: ds)
def pkX (io : List Nat) (fs : List (Str × D)) (δ : Env) : Option (List (Str × D)) := (ioD io δ).map fun ds => ("<io>", .tup ds) :: fs
def RtK (K : PySem.W.Frag) (Γ : CM) (S0 H0 S H : Hp) (σ : St) (d : D) (v : V) (m : Mode) : List Nat → Prop
  | [] => RepM K Γ H0 S H m d v ∧ (m = .ow → Fresh Γ H0 H v d)
  | i :: is => ∃ r δ M, Wd K Γ S0 H0 S H σ M δ ∧ (∀ j ∈ i :: is, md M j = .ow) ∧ pkR (i :: is) r δ = some d ∧ RepM K Γ H0 S H m r v ∧ (m = .ow → Fresh Γ H0 H v r)
def ExK (K : PySem.W.Frag) (Γ : CM) (S0 H0 S H : Hp) (σ : St) (c : Str) (fs : List (Str × D)) (cls : Value) (dd : Option Addr) : List Nat → Prop
  | [] => RepX K Γ S H c fs cls dd
  | i :: is => ∃ fs' δ M, Wd K Γ S0 H0 S H σ M δ ∧ (∀ j ∈ i :: is, md M j = .ow) ∧ pkX (i :: is) fs' δ = some fs ∧ RepX K Γ S H c fs' cls dd
def Fin (K : PySem.W.Frag) (Γ : CM) (S0 H0 S : Hp) (E : WX) (rm : RM) (M' : List Mode) (ws : List Nat) (σ : St) : Out → Ends → Prop
  | .nx δ', Dn => ∀ S' H' σ', Same S S' → Wd K Γ S0 H0 S' H' σ' M' δ' → Fr ws σ σ' → Dn.nx σ' H'
  | .rt d, Dn => ∀ v S' H' σ', Same S S' → Ext S0 H0 S' H' → Fr ws σ σ' → RtK K Γ S0 H0 S' H' σ' d v rm.m rm.io → Dn.rt v H'
  | .ex c fs, _ => ∀ cls dd S' H' σ', Same S S' → Ext S0 H0 S' H' → Fr ws σ σ' → ExK K Γ S0 H0 S' H' σ' c fs cls dd rm.xo → E cls dd σ' H'
abbrev W0 : WX := fun _ _ _ _ => False
def SndS (K : PySem.W.Frag) (Γ : CM) (E : WX) (rm : RM) (M : List Mode) (t : TS) (f : Sv) (M' : List Mode) (ws : List Nat) : Prop :=
  ∀ S0 H0 S H σ δ Dn o, Wd K Γ S0 H0 S H σ M δ → f δ = some o → Fin K Γ S0 H0 S E rm M' ws σ o Dn → t Dn σ H
structure DS (Γ : CM) (X : Cx) (E : WX) (rm : RM) (M : List Mode) (st : Stmt) (t : TS) (f : Sv) (M' : List Mode) (ws : List Nat) : Prop where
  ps : PS X st t
  snd : SndS X.K Γ E rm M t f M' ws
structure DSs (Γ : CM) (X : Cx) (E : WX) (rm : RM) (M : List Mode) (st : List Stmt) (t : TS) (f : Sv) (M' : List Mode) (ws : List Nat) : Prop where
  pss : PSs X st t
  snd : SndS X.K Γ E rm M t f M' ws
section
variable {X : Cx} {Γ : CM} {E : WX} {rm : RM} {M M1 M2 : List Mode} {st : Stmt} {rest body els : List Stmt} {e a b c : Expr} {te : TE} {tc : TT} {t u : TS} {f : Ev} {p : Env → Option Bool} {s s' : Sv} {m : Mode} {pos : Pos} {ws wt : List Nat}
theorem Fin.ss {K : PySem.W.Frag} {S0 H0 S S1 : Hp} {σ : St} {M' : List Mode} {o : Out} {Dn : Ends} (h : Fin K Γ S0 H0 S E rm M' ws σ o Dn) (ss : Same S S1) : Fin K Γ S0 H0 S1 E rm M' ws σ o Dn := by
  cases o with
  | nx δ => exact fun S' H' σ' s1 w fr => h S' H' σ' (ss.trans s1) w fr
  | rt d => exact fun v S' H' σ' s1 => h v S' H' σ' (ss.trans s1)
  | ex c fs => exact fun cls dd S' H' σ' s1 => h cls dd S' H' σ' (ss.trans s1)
def sNext : Sv := fun δ => some (.nx δ)
def sSeq (s s' : Sv) : Sv := fun δ => (s δ).bind fun o => match o with | .nx δ' => s' δ' | o => some o
theorem snd_seq {K : PySem.W.Frag} (h1 : SndS K Γ E rm M t s M1 ws) (h2 : SndS K Γ E rm M1 u s' M2 wt) : SndS K Γ E rm M (tSeq t u) (sSeq s s') M2 (ws ++ wt) := fun S0 H0 S H σ δ Dn o w ef k => by
  obtain ⟨o1, e1, e2⟩ := bind_some ef
  refine h1 S0 H0 S H σ δ _ o1 w e1 ?_
  cases o1 with
  | nx δ1 =>
    refine fun S1 H1 σ1 s1 w1 f1 => h2 S0 H0 S1 H1 σ1 δ1 Dn o w1 e2 ?_
    have k := k.ss s1
    cases o with
    | nx δ2 => exact fun S2 H2 σ2 s2 w2 f2 => k S2 H2 σ2 s2 w2 (f1.trans f2)
    | rt d => exact fun v S' H' σ' s2 w2 f2 => k v S' H' σ' s2 w2 (f1.trans f2)
    | ex c fs => exact fun cls dd S' H' σ' s2 w2 f2 => k cls dd S' H' σ' s2 w2 (f1.trans f2)
  | rt d => cases e2; exact fun v S' H' σ' s2 w2 f2 => k v S' H' σ' s2 w2 (f2.up fun j => List.mem_append_left _)
  | ex c fs => cases e2; exact fun cls dd S' H' σ' s2 w2 f2 => k cls dd S' H' σ' s2 w2 (f2.up fun j => List.mem_append_left _)
theorem dss_nil : DSs Γ X E rm M [] tNext sNext M [] := ⟨pss_nil, fun S0 H0 S H σ δ Dn o w ef k => by cases ef; exact k S H σ (Same.refl _) w Fr.refl⟩
theorem dss_cons (h1 : DS Γ X E rm M st t s M1 ws) (h2 : DSs Γ X E rm M1 rest u s' M2 wt) : DSs Γ X E rm M (st :: rest) (tSeq t u) (sSeq s s') M2 (ws ++ wt) := ⟨pss_cons h1.ps h2.pss, snd_seq h1.snd h2.snd⟩
theorem dss_one (h1 : DS Γ X E rm M st t s M1 ws) : DSs Γ X E rm M [st] t s M1 ws := ⟨pss_one h1.ps, h1.snd⟩
/-- an owned slot becomes shared -/
theorem dss_freeze (i : Nat) (h : DSs Γ X E rm M1 rest u s' M2 ws) (he : M.set i .sh = M1 := by rfl) (hi : i < M.length := by decide) (hm : md M i = .ow := by rfl) : DSs Γ X E rm M rest u s' M2 ws := ⟨h.pss, fun S0 H0 S H σ δ Dn o w ef k => by
  subst he
  obtain ⟨S1, ss, w1⟩ := w.freeze hi hm
  exact h.snd S0 H0 S1 H σ δ Dn o w1 ef (k.ss ss)⟩
/-- .. at the end -/
theorem DSs.frozen (i : Nat) (h : DSs Γ X E rm M rest u s' M2 ws) (he : M2.set i .sh = M1 := by rfl) (hi : i < M2.length := by decide) (hm : md M2 i = .ow := by rfl) : DSs Γ X E rm M rest u s' M1 ws := ⟨h.pss, fun S0 H0 S H σ δ Dn o w ef k => by
  subst he
  refine h.snd S0 H0 S H σ δ Dn o w ef ?_
  cases o with
  | nx δ1 => exact fun S1 H1 σ1 s1 w1 f1 => let ⟨S2, s2, w2⟩ := w1.freeze hi hm; k S2 H1 σ1 (s1.trans s2) w2 f1
  | rt d => exact k
  | ex c fs => exact k⟩
def sSet (i : Nat) (f : Ev) : Sv := fun δ => (f δ).map fun d => .nx (δ.set i (some d))
theorem snd_set {K : PySem.W.Frag} {i : Nat} (hi : i < M.length) (hm : okS m = true ∨ m = .bo) (h : SndE K Γ M te f m) : SndS K Γ E rm M (tAsg te (gName i)) (sSet i f) (M.set i m) [i] := fun S0 H0 S H σ δ Dn o w ef k => by
  unfold sSet at ef
  cases q : f δ with
  | none => rw [q] at ef; cases ef
  | some d =>
    rw [q] at ef; cases ef
    refine h S0 H0 S H σ δ _ d w q fun v S1 H1 x1 r1 fr => ?_
    refine k S1 H1 (σ.set i (some v)) x1.ss ((w.mono x1).store hi ?_ r1 (fun z a ev p hp => w.ext.hh.free (fr z a ev p hp)) fun z a ev j dj b hj mj hs p hp => ?_) Fr.set
    · rcases hm with hm | hm
      · cases m <;> first | exact .inl rfl | exact .inr (.inr rfl) | cases hm
      · exact .inr (.inl hm)
    · rw [((w.top mj hj hs).2.same x1.ss fun q _ o e => x1.hh q o e).2]
      exact w.apart hj mj hs (fr z a ev p hp)
theorem ds_set {i : Nat} {x : Str} {pos' : Pos} (hN : X.N.Nodup) (he : DE Γ X M e te f m) (hM : M.set i m = M1 := by rfl) (hi : X.N[i]? = some x := by rfl) (hx : Loc X.env.scope x := by first | exact Or.inl rfl | exact Or.inr rfl) (hl : i < M.length := by decide) (hm : okS m = true ∨ m = .bo := by first | exact Or.inl rfl | exact Or.inr rfl) (hs : swapsWith e (some (.Name x pos')) pos.line X.env = pure false := by rfl) (hf : X.fn x = true ∨ X.env.scope.names.lookup x = some .local := by first | exact .inl rfl | exact .inr rfl | assumption) :
    DS Γ X E rm M (.Assign [.Name x pos'] e pos) (tAsg te (gName i)) (sSet i f) M1 [i] := ⟨ps_set hN hi hx he.pe hs hf, hM ▸ snd_set hl hm he.snd⟩
def sRet (f : Ev) : Sv := fun δ => (f δ).map .rt
theorem ds_ret {xo : List Nat} (he : DE Γ X M e te f m) : DS Γ X E ⟨m, [], xo⟩ M (.Return (some e) pos) (tRet te) (sRet f) M1 [] := ⟨ps_ret he.pe, fun S0 H0 S H σ δ Dn o w ef k => by
  unfold sRet at ef
  cases q : f δ with
  | none => rw [q] at ef; cases ef
  | some d =>
    rw [q] at ef; cases ef
    exact he.snd S0 H0 S H σ δ _ d w q fun v S1 H1 x1 r1 fr => k v S1 H1 σ x1.ss (w.ext.trans x1) Fr.refl ⟨r1, fun z a ev p hp => w.ext.hh.free (fr z a ev p hp)⟩⟩
/-- an owned name is handed back -/
theorem ds_retO {xo : List Nat} {i : Nat} {x : Str} {p' : Pos} (hM : md M i = .ow := by rfl) (hN : X.N[i]? = some x := by rfl) (hv : Vis X.env.scope x := by first | exact Or.inl rfl | exact Or.inr (Or.inl rfl) | exact Or.inr (Or.inr rfl)) (hd : (x == ("__debug__" : Str)) = false := by decide) (hcd : (x == ("__classdict__" : Str)) = false := by decide) :
    DS Γ X E ⟨.ow, [], xo⟩ M (.Return (some (.Name x p')) pos) (tRet (tVar i)) (sRet (vVar i)) M1 [] := ⟨ps_ret (pe_var hN hv hd hcd), fun S0 H0 S H σ δ Dn o w ef k => by
  unfold sRet at ef
  cases q : vVar i δ with
  | none => rw [q] at ef; cases ef
  | some d =>
    rw [q] at ef; cases ef
    have e : δ[i]? = some (some d) := by
      unfold vVar at q
      cases z : δ[i]? with
      | none => rw [z] at q; cases q
      | some o => rw [z] at q; cases o with
        | none => cases q
        | some x => cases q; rfl
    obtain ⟨v, hv, r⟩ := w.slot i d e
    rw [hM] at r
    exact ⟨v, hv, k v S H σ (Same.refl _) w.ext Fr.refl ⟨r, fun _ a ev => w.own i d a e hM (by rw [← ev]; exact hv)⟩⟩⟩
def sRetN : Sv := fun _ => some (.rt .non)
theorem ds_retN {xo : List Nat} : DS Γ X E ⟨.sh, [], xo⟩ M (.Return none pos) tRetN sRetN M1 [] := ⟨ps_retN, fun S0 H0 S H σ δ Dn o w ef k => by
  cases ef
  exact k .non S H σ (Same.refl _) w.ext Fr.refl ⟨rfl, fun z => by cases z⟩⟩
def sIf (p : Env → Option Bool) (s s' : Sv) : Sv := fun δ => (p δ).bind fun b => if b = true then s δ else s' δ
theorem Fin.up {K : PySem.W.Frag} {S0 H0 S : Hp} {σ : St} {M' : List Mode} {o : Out} {Dn : Ends} (h : Fin K Γ S0 H0 S E rm M' ws σ o Dn) (q : ∀ j ∈ wt, j ∈ ws) : Fin K Γ S0 H0 S E rm M' wt σ o Dn := by
  cases o with
  | nx δ => exact fun S' H' σ' s1 w fr => h S' H' σ' s1 w (fr.up q)
  | rt d => exact fun v S' H' σ' s1 w fr => h v S' H' σ' s1 w (fr.up q)
  | ex c fs => exact fun cls dd S' H' σ' s1 w fr => h cls dd S' H' σ' s1 w (fr.up q)
theorem ds_if (hc : DT Γ X M c tc p) (ha : DSs Γ X E rm M body t s M1 ws) (hb : DSs Γ X E rm M els u s' M1 wt) : DS Γ X E rm M (.If c body els pos) (tIfS tc t u) (sIf p s s') M1 (ws ++ wt) := ⟨ps_if hc.pt ha.pss hb.pss, fun S0 H0 S H σ δ Dn o w ef k => by
  obtain ⟨b, e1, e2⟩ := bind_some ef
  refine hc.snd S0 H0 S H σ δ _ b w e1 fun S1 H1 x1 => ?_
  cases b with
  | true => rw [if_pos rfl] at e2 ⊢; exact ha.snd S0 H0 S1 H1 σ δ Dn o (w.mono x1) e2 ((k.ss x1.ss).up fun j => List.mem_append_left _)
  | false => rw [if_neg Bool.false_ne_true] at e2 ⊢; exact hb.snd S0 H0 S1 H1 σ δ Dn o (w.mono x1) e2 ((k.ss x1.ss).up fun j => List.mem_append_right _)⟩
/-- a block that always hands back (or raises) may be said to end in any modes -/
theorem DSs.any (h : DSs Γ X E rm M rest u s' M2 ws) (hn : ∀ δ δ', s' δ ≠ some (.nx δ')) : DSs Γ X E rm M rest u s' M1 ws := ⟨h.pss, fun S0 H0 S H σ δ Dn o w ef k => by
  refine h.snd S0 H0 S H σ δ Dn o w ef ?_
  cases o with
  | nx δ1 => exact (hn _ _ ef).elim
  | rt d => exact k
  | ex c fs => exact k⟩
/-- an expression alone: its value is dropped -/
def sExpr (f : Ev) : Sv := fun δ => (f δ).map fun _ => .nx δ
theorem ds_expr (he : DE Γ X M e te f m) (hs : swapsWith e none pos.line X.env = pure false := by rfl) : DS Γ X E rm M (.Expr e pos) (tDrop te) (sExpr f) M [] := ⟨ps_expr he.pe hs, fun S0 H0 S H σ δ Dn o w ef k => by
  unfold sExpr at ef
  cases q : f δ with
  | none => rw [q] at ef; cases ef
  | some d =>
    rw [q] at ef; cases ef
    exact he.snd S0 H0 S H σ δ _ d w q fun v S1 H1 x1 r1 fr => k S1 H1 σ x1.ss (w.mono x1) Fr.refl⟩
end
end Dl
/-! targets, what is walked, for, while, comprehensions. -/
namespace Dl
open PySem L2
/-! ### targets -/
abbrev Hv := D → Env → Option Env
def SndG (K : PySem.W.Frag) (Γ : CM) (M : List Mode) (g : TG) (h : Hv) (M1 : List Mode) (ws : List Nat) : Prop :=
  ∀ S0 H0 S H σ δ v d Q δ1, Wd K Γ S0 H0 S H σ M δ → Rep K Γ S d v → h d δ = some δ1 → (∀ σ', Wd K Γ S0 H0 S H σ' M1 δ1 → (∀ vs, (∀ i ∈ ws, i ∈ vs) → wipe σ' vs = wipe σ vs) → Q σ' H) → g v σ H Q
structure DG (Γ : CM) (X : Cx) (M : List Mode) (tg : Expr) (g : TG) (h : Hv) (M1 : List Mode) (ws : List Nat) : Prop where
  pg : PG X tg g
  snd : SndG X.K Γ M g h M1 ws
def SndGs (K : PySem.W.Frag) (Γ : CM) (M : List Mode) (g : TGs) (h : List D → Env → Option Env) (M1 : List Mode) (ws : List Nat) : Prop :=
  ∀ S0 H0 S H σ δ vs ds Q δ1, Wd K Γ S0 H0 S H σ M δ → RepL K Γ S ds vs → h ds δ = some δ1 → (∀ σ', Wd K Γ S0 H0 S H σ' M1 δ1 → (∀ vs, (∀ i ∈ ws, i ∈ vs) → wipe σ' vs = wipe σ vs) → Q σ' H) → g vs σ H Q
structure DGs (Γ : CM) (X : Cx) (M : List Mode) (tg : List Expr) (g : TGs) (h : List D → Env → Option Env) (M1 : List Mode) (ws : List Nat) : Prop where
  pgs : PGs X tg g
  snd : SndGs X.K Γ M g h M1 ws
theorem wipe_get (σ : St) : ∀ (vs : List Nat) (j : Nat), (wipe σ vs)[j]? = if j ∈ vs ∧ j < σ.length then some none else σ[j]?
  | [], j => by rw [if_neg (by simp)]; rfl
  | v :: vs, j => by
    unfold wipe
    by_cases hv : v = j
    · subst hv
      by_cases hl : v < σ.length
      · rw [List.getElem?_set_self (by rw [wipe_length]; exact hl), if_pos ⟨by simp, hl⟩]
      · rw [List.getElem?_eq_none (by rw [List.length_set, wipe_length]; omega), if_neg (fun z => hl z.2), List.getElem?_eq_none (by omega)]
    · rw [List.getElem?_set_ne hv, wipe_get σ vs j]
      by_cases hj : j ∈ vs ∧ j < σ.length
      · rw [if_pos hj, if_pos ⟨List.mem_cons_of_mem _ hj.1, hj.2⟩]
      · rw [if_neg hj, if_neg (fun z => hj ⟨(List.mem_cons.mp z.1).resolve_left (fun e => hv e.symm), z.2⟩)]
theorem wipe_set {σ : St} {i : Nat} {o : Option V} {vs : List Nat} (h : i ∈ vs) : wipe (σ.set i o) vs = wipe σ vs := by
  apply List.ext_getElem?
  intro j
  rw [wipe_get, wipe_get, List.length_set]
  by_cases hj : j ∈ vs ∧ j < σ.length
  · rw [if_pos hj, if_pos hj]
  · rw [if_neg hj, if_neg hj]
    by_cases e : i = j
    · subst e
      have hl : ¬ i < σ.length := fun z => hj ⟨h, z⟩
      rw [List.getElem?_eq_none (by rw [List.length_set]; omega), List.getElem?_eq_none (by omega)]
    · rw [List.getElem?_set_ne e]
theorem wipe_wipe (σ : St) (vs : List Nat) : wipe (wipe σ vs) vs = wipe σ vs := by
  apply List.ext_getElem?
  intro j
  rw [wipe_get, wipe_get, wipe_length]
  by_cases hj : j ∈ vs ∧ j < σ.length
  · rw [if_pos hj, if_pos hj]
  · rw [if_neg hj, if_neg hj]
section
variable {X : Cx} {Γ : CM} {M M1 M2 : List Mode} {tg e a b : Expr} {es : List Expr} {g : TG} {gs : TGs} {h : Hv} {hs : List D → Env → Option Env} {ws ws' : List Nat} {pos : Pos} {K : PySem.W.Frag}
def hName (i : Nat) : Hv := fun d δ => some (δ.set i (some d))
theorem snd_name {i : Nat} (hl : i < M.length) : SndG K Γ M (gName i) (hName i) (M.set i .sh) [i] := fun S0 H0 S H σ δ v d Q δ1 w r e k => by
  cases e
  exact k _ (w.store hl (.inl rfl) r (fun z => by cases z) fun z => by cases z) fun vs hv => wipe_set (hv i (by simp))
theorem dg_name {i : Nat} {x : Str} (hN : X.N.Nodup) (hM : M.set i .sh = M1 := by rfl) (hi : X.N[i]? = some x := by rfl) (hx : Loc X.env.scope x := by first | exact Or.inl rfl | exact Or.inr rfl) (hl : i < M.length := by decide) (hf : X.fn x = true ∨ X.env.scope.names.lookup x = some .local := by first | exact .inl rfl | exact .inr rfl | assumption) :
    DG Γ X M (.Name x pos) (gName i) (hName i) M1 [i] := ⟨pg_name hN hi hx hf, hM ▸ snd_name hl⟩
def hNil : List D → Env → Option Env := fun ds δ => match ds with | [] => some δ | _ => none
def hCons (h : Hv) (hs : List D → Env → Option Env) : List D → Env → Option Env := fun ds δ => match ds with | d :: ds => (h d δ).bind (hs ds) | [] => none
theorem dgs_nil : DGs Γ X M [] gNil hNil M [] := ⟨pgs_nil, fun S0 H0 S H σ δ vs ds Q δ1 w r e k => by
  cases ds with
  | nil => cases e; exact ⟨r, k σ w fun _ _ => rfl⟩
  | cons d ds => cases e⟩
theorem dgs_cons (h1 : DG Γ X M e g h M1 ws) (h2 : DGs Γ X M1 es gs hs M2 ws') (hs' : (assignEach (e :: es) X.env).map (·.2) = assign e X.env :: (assignEach es X.env).map (·.2) := by rfl) : DGs Γ X M (e :: es) (gCons g gs) (hCons h hs) M2 (ws ++ ws') :=
  ⟨pgs_cons h1.pg h2.pgs hs', fun S0 H0 S H σ δ vs ds Q δ1 w r e k => by
    cases ds with
    | nil => cases e
    | cons d ds =>
      obtain ⟨v, vr, ev, r1, r2⟩ := r
      obtain ⟨δ2, e1, e2⟩ := bind_some e
      refine ⟨v, vr, ev, h1.snd S0 H0 S H σ δ v d _ δ2 w r1 e1 fun σ1 w1 u1 => ?_⟩
      exact h2.snd S0 H0 S H σ1 δ2 vr ds Q δ1 w1 r2 e2 fun σ2 w2 u2 => k σ2 w2 fun us hu => (u2 us fun i hi => hu i (List.mem_append_right _ hi)).trans (u1 us fun i hi => hu i (List.mem_append_left _ hi))⟩
def hTup (n : Nat) (hs : List D → Env → Option Env) : Hv := fun d δ => match d with | .tup ds => if ds.length = n then hs ds δ else none | _ => none
theorem dg_tup {k n : Nat} (hc : X.calm = true) (h : DGs Γ X M es gs hs M1 ws) (hn : (assignEach es X.env).length = n := by rfl) (hst : (assignEach es X.env).findIdx? (·.1) = none := by rfl) : DG Γ X M (.Tuple es k pos) (gTup X.K n gs) (hTup n hs) M1 ws :=
  ⟨pg_tup hc h.pgs hn hst, fun S0 H0 S H σ δ v d Q δ1 w r e kk => by
    cases d with
    | tup ds =>
      obtain ⟨a, vs, ev, hq, hl, rl⟩ := r
      have e' : (if ds.length = n then hs ds δ else none) = some δ1 := e
      by_cases c : ds.length = n
      · rw [if_pos c] at e'
        exact ⟨a, vs, ev, SqT.of (w.sH _ _ hq), by rw [rl.length]; exact c, h.snd S0 H0 S H σ δ vs ds Q δ1 w rl e' kk⟩
      · rw [if_neg c] at e'; cases e'
    | _ => cases e⟩
theorem fr_wipe {σ σ' : St} (u : ∀ vs, (∀ i ∈ ws, i ∈ vs) → wipe σ' vs = wipe σ vs) : Fr ws σ σ' := by
  have e0 := u ws fun _ h => h
  refine ⟨?_, fun j hj => ?_⟩
  · have := congrArg List.length e0
    rwa [wipe_length, wipe_length] at this
  · have e := congrArg (fun l => l[j]?) e0
    simp only [wipe_get] at e
    rw [if_neg (fun z => hj z.1), if_neg (fun z => hj z.1)] at e
    exact e
/-- target = value -/
def sAsg (f : Ev) (h : Hv) : Sv := fun δ => (f δ).bind fun d => (h d δ).map .nx
theorem ds_asg {E : WX} {rm : RM} {m : Mode} {te : TE} {f : Ev} (he : DE Γ X M e te f m) (hg : DG Γ X M tg g h M1 ws) (hm : okS m = true := by rfl) (hs : swapsWithSole [tg] e pos.line X.env = pure false := by rfl) (hw : swappedStores [tg] e X.env = pure none := by rfl)
    (h1 : (assignEach [tg] X.env).map (·.2) = [assign tg X.env] := by rfl) : DS Γ X E rm M (.Assign [tg] e pos) (tAsg te g) (sAsg f h) M1 ws := ⟨ps_asg he.pe hg.pg hs hw h1, fun S0 H0 S H σ δ Dn o w ef k => by
  obtain ⟨d, e1, e2⟩ := bind_some ef
  cases q : h d δ with
  | none => rw [q] at e2; cases e2
  | some δ1 =>
    rw [q] at e2; cases e2
    refine (he.snd.sh hm) S0 H0 S H σ δ _ d w e1 fun v S1 H1 x1 r1 _ => ?_
    exact hg.snd S0 H0 S1 H1 σ δ v d _ δ1 (w.mono x1) r1 q fun σ' w' u => k S1 H1 σ' x1.ss w' (fr_wipe u)⟩
end

/-! ### what is walked -/
structure ItAt (K : PySem.W.Frag) (Γ : CM) (J : It) (ds : List D) (S H : Hp) : Prop where
  go : ∀ i d, ds[i]? = some d → J.go i H ∧ ∀ x H2, J.yld i H x H2 → ∃ S2, Ext S H S2 H2 ∧ Rep K Γ S2 d x
  stop : J.stop ds.length H
def ItOk (K : PySem.W.Frag) (Γ : CM) (S0 H0 S1 : Hp) (J : It) (ds : List D) : Prop := ds.length ≤ sizeLine ∧ ∀ S H, Ext S0 H0 S H → Same S1 S → ItAt K Γ J ds S H
def SndI (K : PySem.W.Frag) (Γ : CM) (M : List Mode) (wi : TI) (f : Env → Option (List D)) : Prop :=
  ∀ S0 H0 S H σ δ R ds, Wd K Γ S0 H0 S H σ M δ → f δ = some ds → (∀ J S1 H1, Ext S H S1 H1 → ItOk K Γ S0 H0 S1 J ds → R J H1) → wi σ H R
structure DI (Γ : CM) (X : Cx) (M : List Mode) (tg iter : Expr) (wi : TI) (f : Env → Option (List D)) : Prop where
  pi : PI X tg iter wi
  snd : SndI X.K Γ M wi f
section
variable {X : Cx} {Γ : CM} {M M1 M2 : List Mode} {tg e a b iter : Expr} {es : List Expr} {te ta tb : TE} {f : Ev} {m ma mb : Mode} {g : TG} {h : Hv} {ws : List Nat} {pos : Pos} {K : PySem.W.Frag}
/-- a list that stands through the loop -/
def okI : Mode → Bool
  | .rd => false
  | _ => true
def iLstF (f : Ev) : Env → Option (List D) := fun δ => (f δ).bind fun d => match d with | .lst ds => some ds | .scr ns => some (ns.map D.int) | _ => none
theorem len_scr {n : Nat} (h : n ≤ 63) : n ≤ sizeLine := Nat.le_trans h (by decide)
theorem itl_at {S H : Hp} {p : Addr} {vs : List V} {ds : List D} (hq : SqL K H p vs) (r : RepL K Γ S ds vs) (sh : Same S H) : ItAt K Γ (Itl K p) ds S H := by
  refine ⟨fun i d hd => ?_, ⟨vs, hq, by rw [r.length]; exact Nat.le_refl _⟩⟩
  obtain ⟨v, hv, rv⟩ := r.get hd
  refine ⟨⟨vs, v, hq, hv⟩, fun x H2 y => ?_⟩
  obtain ⟨e1, y⟩ := y
  subst e1
  have e2 : x = v := Option.some.inj ((y vs hq).symm.trans hv)
  exact ⟨S, Ext.refl sh, e2 ▸ rv⟩
theorem di_list (ha : DE Γ X M e te f m) (hm : okI m = true := by rfl) : DI Γ X M tg e (iList X.K te) (iLstF f) := ⟨pi_list ha.pe, fun S0 H0 S H σ δ R ds w ef k => by
  obtain ⟨d, e1, e2⟩ := bind_some ef
  have fin : ∀ v S1 H1, Ext S H S1 H1 → (Rep X.K Γ S1 d v ∨ ∃ p, v = .ref p ∧ TopAt X.K Γ S1 H0 p d) → ∃ p, v = .ref p ∧ (∃ xs, SqL X.K H1 p xs) ∧ R (Itl X.K p) H1 := fun v S1 H1 x1 r => by
    have w1 := w.mono x1
    cases d with
    | lst es =>
      cases e2
      rcases r with ⟨p, vs, ev, hp, hl, rl⟩ | ⟨p, ev, vs, hp, hl, rl⟩
      · exact ⟨p, ev, ⟨vs, SqL.of (x1.sh _ _ hp)⟩, k _ S1 H1 x1 ⟨hl, fun S2 H2 x2 s2 => itl_at (SqL.of (x2.sh _ _ (s2 _ _ hp))) (rl.mono s2) x2.sh⟩⟩
      · exact ⟨p, ev, ⟨vs, SqL.of (w1.h0 _ _ hp)⟩, k _ S1 H1 x1 ⟨hl, fun S2 H2 x2 s2 => itl_at (SqL.of (x2.hh _ _ hp)) (rl.mono s2) x2.sh⟩⟩
    | scr ns =>
      cases e2
      rcases r with ⟨p, ev, hp, hl⟩ | ⟨p, ev, t⟩
      · refine ⟨p, ev, ⟨_, x1.sh.seq hp⟩, k _ S1 H1 x1 ⟨by rw [List.length_map]; exact len_scr hl, fun S2 H2 x2 s2 => itl_at (x2.sh.seq (s2.seq hp)) (RepL.ints ns) x2.sh⟩⟩
      · exact t.elim
    | _ => cases e2
  cases m with
  | rd => cases hm
  | sh => exact ha.snd S0 H0 S H σ δ _ d w e1 fun v S1 H1 x1 r1 _ => fin v S1 H1 x1 (.inl r1)
  | bo => exact ha.snd S0 H0 S H σ δ _ d w e1 fun v S1 H1 x1 r1 _ => fin v S1 H1 x1 r1
  | ow => exact ha.snd.share S0 H0 S H σ δ _ d w e1 fun v S1 H1 x1 r1 _ => fin v S1 H1 x1 (.inl r1)⟩
/-- a tuple; a text -/
def iTupF (f : Ev) : Env → Option (List D) := fun δ => (f δ).bind fun d => match d with | .tup ds => some ds | .ktup ds => some ds | _ => none
theorem itt_at {S H : Hp} {p : Addr} {vs : List V} {ds : List D} (hq : SqT K H p vs) (r : RepL K Γ S ds vs) (sh : Same S H) : ItAt K Γ (Itt K p) ds S H := by
  refine ⟨fun i d hd => ?_, ⟨vs, hq, by rw [r.length]; exact Nat.le_refl _⟩⟩
  obtain ⟨v, hv, rv⟩ := r.get hd
  refine ⟨⟨vs, v, hq, hv⟩, fun x H2 y => ?_⟩
  obtain ⟨e1, y⟩ := y
  subst e1
  have e2 : x = v := Option.some.inj ((y vs hq).symm.trans hv)
  exact ⟨S, Ext.refl sh, e2 ▸ rv⟩
theorem di_tup (ha : DE Γ X M e te f m) : DI Γ X M tg e (iTup X.K te) (iTupF f) := ⟨pi_tup ha.pe, fun S0 H0 S H σ δ R ds w ef k => by
  obtain ⟨d, e1, e2⟩ := bind_some ef
  refine ha.snd S0 H0 S H σ δ _ d w e1 fun v S1 H1 x1 r1 _ => ?_
  have w1 := w.mono x1
  cases d with
  | tup es =>
    cases e2
    obtain ⟨p, vs, ev, hp, hl, rl⟩ := r1.tup w1.h0
    exact ⟨p, ev, ⟨vs, SqT.of (x1.sh _ _ hp)⟩, k _ S1 H1 x1 ⟨hl, fun S2 H2 x2 s2 => itt_at (SqT.of (x2.sh _ _ (s2 _ _ hp))) (rl.mono s2) x2.sh⟩⟩
  | ktup es =>
    cases e2
    obtain ⟨p, vs, ev, hp, hl, rl⟩ := r1.ktup w1.h0
    exact ⟨p, ev, ⟨vs, Same.sqt x1.sh hp⟩, k _ S1 H1 x1 ⟨hl, fun S2 H2 x2 s2 => itt_at (Same.sqt x2.sh (Same.sqt s2 hp)) (rl.mono s2) x2.sh⟩⟩
  | _ => cases e2⟩
def signs (x : Str) : List D := x.cps.toList.map fun c => D.str ⟨#[c]⟩
def iStrF (f : Ev) : Env → Option (List D) := fun δ => (f δ).bind fun d => match d with | .str x => some (signs x) | _ => none
theorem one_le : 1 ≤ sizeLine := by decide
theorem di_str (ha : DE Γ X M e te f m) : DI Γ X M tg e (iStr te) (iStrF f) := ⟨pi_str ha.pe, fun S0 H0 S H σ δ R ds w ef k => by
  obtain ⟨d, e1, e2⟩ := bind_some ef
  refine ha.snd S0 H0 S H σ δ _ d w e1 fun v S1 H1 x1 r1 _ => ?_
  have w1 := w.mono x1
  cases d with
  | str x =>
    cases e2
    obtain ⟨ev, hl⟩ := r1.str w1.h0
    have ln : (signs x).length = x.cps.size := by unfold signs; rw [List.length_map]; simp
    refine ⟨x, ev, k _ S1 H1 x1 ⟨by rw [ln]; exact hl, fun S2 H2 x2 s2 => ⟨fun i d hd => ?_, by rw [ln]; exact Nat.le_refl _⟩⟩⟩
    unfold signs at hd
    rw [List.getElem?_map] at hd
    cases q : x.cps.toList[i]? with
    | none => rw [q] at hd; cases hd
    | some c =>
      rw [q] at hd; cases hd
      have q' : x.cps[i]? = some c := by simpa using q
      refine ⟨(Array.getElem?_eq_some_iff.mp q').1, fun y H3 hy => ?_⟩
      obtain ⟨e3, c', hc', ey⟩ := hy
      subst e3
      rw [q'] at hc'
      cases hc'
      exact ⟨S2, Ext.refl x2.sh, ey, one_le⟩
  | _ => cases e2⟩
/-- range(n); range(a, b) -/
def rngD (lo : Int) (n : Nat) : List D := (List.range n).map fun (i : Nat) => D.int (lo + (i : Int))
theorem itr_at {S H : Hp} {lo : Int} {n : Nat} (sh : Same S H) : ItAt K Γ (Itr lo n) (rngD lo n) S H := by
  have ln : (rngD lo n).length = n := by unfold rngD; rw [List.length_map, List.length_range]
  refine ⟨fun i d hd => ?_, by rw [ln]; exact Nat.le_refl _⟩
  have hi : i < n := by rw [← ln]; exact (List.getElem?_eq_some_iff.mp hd).1
  have ed : D.int (lo + (i : Int)) = d := by
    unfold rngD at hd
    rw [List.getElem?_map, List.getElem?_range hi] at hd
    exact Option.some.inj hd
  refine ⟨hi, fun x H2 y => ?_⟩
  obtain ⟨e1, e2⟩ := y
  subst e1 e2 ed
  exact ⟨S, Ext.refl sh, rfl⟩
def iRngF1 (f : Env → Option (List D)) : Env → Option (List D) := fun δ => (f δ).bind fun ds => match ds with | [.int j] => if -1000000 ≤ j ∧ j ≤ 1000000 then some (rngD 0 j.toNat) else none | _ => none
def iRngF2 (f : Env → Option (List D)) : Env → Option (List D) := fun δ => (f δ).bind fun ds => match ds with | [.int i, .int j] => if -1000000 ≤ i ∧ i ≤ 1000000 ∧ -1000000 ≤ j ∧ j ≤ 1000000 then some (rngD i (j - i).toNat) else none | _ => none

theorem rngD_len (lo : Int) (n : Nat) : (rngD lo n).length = n := by unfold rngD; rw [List.length_map, List.length_range]
theorem million : 2000000 ≤ sizeLine := by decide
variable {tr : TA} {fr : Env → Option (List D)} {ms : List Mode}
theorem ArgMs.one {S H : Hp} {m : Mode} {i : Int} {vs : List V} (r : ArgMs K Γ S H [m] [.int i] vs) : vs = [.int i] := by
  obtain ⟨d, ds, v, vs', e1, e2, r, e3, e4⟩ := r
  cases e1
  subst e2 e4
  cases m with
  | sh => rw [show v = V.int i from r]
  | _ =>
    rcases r with r | ⟨a, _, t⟩
    · rw [show v = V.int i from r]
    · exact t.elim
theorem di_rng1 {p : Pos} (hn : X.mg "range" = none) (ha : DAr Γ X M [a] tr fr ms) (hg : Gl X "range" := by rfl) (hs : starEach [a] X.env = [(false, eval a X.env)] := by rfl) : DI Γ X M tg (.Call (.Name "range" p) [a] [] pos) (iRng1 tr) (iRngF1 fr) := ⟨pi_range1 hg hn ha.pa hs, fun S0 H0 S H σ δ R ds w ef k => by
  obtain ⟨as, e1, e2⟩ := bind_some ef
  refine ha.snd S0 H0 S H σ δ _ as w e1 fun vs S1 H1 x1 r1 => ?_
  match as, e2, r1 with
  | [.int j], e2, r1 =>
    obtain ⟨hj, rfl⟩ := ite_some e2
    obtain ⟨m1, rfl⟩ : ∃ m, ms = [m] := by
      have := (r1.len).2
      match ms, this with
      | [m], _ => exact ⟨m, rfl⟩
    exact ⟨j, r1.one, by omega, by omega, k _ S1 H1 x1 ⟨by rw [rngD_len]; have := million; omega, fun S2 H2 x2 s2 => itr_at x2.sh⟩⟩⟩
theorem ArgMs.two {S H : Hp} {m m' : Mode} {i j : Int} {vs : List V} (r : ArgMs K Γ S H [m, m'] [.int i, .int j] vs) : vs = [.int i, .int j] := by
  obtain ⟨d, ds, v, vs', e1, e2, r, t⟩ := r
  cases e1
  have h2 := ArgMs.one t
  have h1 : [v] = [V.int i] := ArgMs.one (m := m) (by exact ⟨_, [], v, [], rfl, rfl, r, rfl, rfl⟩)
  subst e2 h2
  cases h1
  rfl
theorem di_rng2 {p : Pos} (hn : X.mg "range" = none) (ha : DAr Γ X M [a, b] tr fr ms) (hg : Gl X "range" := by rfl) (hs : starEach [a, b] X.env = [(false, eval a X.env), (false, eval b X.env)] := by rfl) (hs2 : starEach [b] X.env = [(false, eval b X.env)] := by rfl) : DI Γ X M tg (.Call (.Name "range" p) [a, b] [] pos) (iRng2 tr) (iRngF2 fr) := ⟨pi_range2 hg hn ha.pa hs hs2, fun S0 H0 S H σ δ R ds w ef k => by
  obtain ⟨as, e1, e2⟩ := bind_some ef
  refine ha.snd S0 H0 S H σ δ _ as w e1 fun vs S1 H1 x1 r1 => ?_
  match as, e2, r1 with
  | [.int i, .int j], e2, r1 =>
    obtain ⟨hj, rfl⟩ := ite_some e2
    obtain ⟨m1, m2, rfl⟩ : ∃ m m', ms = [m, m'] := by
      have := (r1.len).2
      match ms, this with
      | [m, m'], _ => exact ⟨m, m', rfl⟩
    exact ⟨i, j, r1.two, by omega, k _ S1 H1 x1 ⟨by rw [rngD_len]; have := million; omega, fun S2 H2 x2 s2 => itr_at x2.sh⟩⟩⟩

/-! ### for -/
def forD (set : Hv) (body : Sv) : List D → Sv
  | [], δ => some (.nx δ)
  | d :: ds, δ => (set d δ).bind fun δ1 => (body δ1).bind fun o => match o with | .nx δ2 => forD set body ds δ2 | o => some o
def sFor (it : Env → Option (List D)) (set : Hv) (body : Sv) : Sv := fun δ => (it δ).bind fun ds => forD set body ds δ
theorem snd_for {wt : List Nat} {E : WX} {rm : RM} {wi : TI} {it : Env → Option (List D)} {tb : TS} {body : Sv} (hi : SndI K Γ M wi it) (hg : SndG K Γ M g h M1 ws) (hb : SndS K Γ E rm M1 tb body M wt) : SndS K Γ E rm M (tFor wi g tb) (sFor it h body) M (ws ++ wt) := fun S0 H0 S H σ0 δ Dn o w ef k => by
  obtain ⟨ds, e1, e2⟩ := bind_some ef
  refine hi S0 H0 S H σ0 δ _ ds w e1 fun J S1 H1 x1 ok => ?_
  refine ⟨fun i m σ H => m = ds.length - i ∧ i ≤ ds.length ∧ ∃ S2 δ2, Wd K Γ S0 H0 S2 H σ M δ2 ∧ Same S1 S2 ∧ forD h body (ds.drop i) δ2 = some o ∧ Fr (ws ++ wt) σ0 σ, ⟨_, rfl, Nat.zero_le _, S1, δ, w.mono x1, Same.refl _, e2, Fr.refl⟩, ?_⟩
  rintro i m σ2 H2 ⟨rfl, hi', S2, δ2, w2, s2, e3, f2⟩
  have at_ := ok.2 S2 H2 w2.ext s2
  by_cases hlt : i < ds.length
  · refine .inr ⟨(at_.go i ds[i] (List.getElem?_eq_getElem hlt)).1, fun σ' H' => ∃ S3 δ3, Wd K Γ S0 H0 S3 H' σ' M δ3 ∧ Same S1 S3 ∧ forD h body (ds.drop (i + 1)) δ3 = some o ∧ Fr (ws ++ wt) σ0 σ', fun σ' H' ⟨S3, δ3, w3, s3, e4, f4⟩ => ⟨ds.length - (i + 1), by omega, rfl, hlt, S3, δ3, w3, s3, e4, f4⟩, fun x H3 y => ?_⟩
    obtain ⟨S3, x3, r3⟩ := (at_.go i ds[i] (List.getElem?_eq_getElem hlt)).2 x H3 y
    rw [List.drop_eq_getElem_cons hlt] at e3
    obtain ⟨δ4, e4, e5⟩ := bind_some e3
    obtain ⟨o5, e6, e7⟩ := bind_some e5
    refine hg S0 H0 S3 H3 σ2 δ2 x ds[i] _ δ4 (w2.mono x3) r3 e4 fun σ4 w4 u4 => ?_
    have f4 : Fr (ws ++ wt) σ0 σ4 := f2.same ((fr_wipe u4).up fun j => List.mem_append_left _)
    refine hb S0 H0 S3 H3 σ4 δ4 _ o5 w4 e6 ?_
    cases o5 with
    | nx δ5 => exact fun S5 H5 σ5 s5 w5 f5 => ⟨S5, δ5, w5, (s2.trans x3.ss).trans s5, e7, f4.same (f5.up fun j => List.mem_append_right _)⟩
    | rt d => cases e7; exact fun v S' H' σ' s5 w5 f5 => k v S' H' σ' (((x1.ss.trans s2).trans x3.ss).trans s5) w5 (f4.same (f5.up fun j => List.mem_append_right _))
    | ex c fs => cases e7; exact fun cls dd S' H' σ' s5 w5 f5 => k cls dd S' H' σ' (((x1.ss.trans s2).trans x3.ss).trans s5) w5 (f4.same (f5.up fun j => List.mem_append_right _))
  · have e : i = ds.length := by omega
    subst e
    rw [List.drop_length] at e3
    cases e3
    exact .inl ⟨at_.stop, k S2 H2 σ2 (x1.ss.trans s2) w2 f2⟩
theorem ds_for {wt : List Nat} {E : WX} {rm : RM} {wi : TI} {it : Env → Option (List D)} {body : List Stmt} {tb : TS} {s : Sv} (hp : PassesOwn (model X.prog X.w) X.A X.env X.xe) (hc : X.calm = true) (hi : DI Γ X M tg iter wi it) (hg : DG Γ X M tg g h M1 ws) (hb : DSs Γ X E rm M1 body tb s M wt)
    (hs : ∀ x, foldedSetIterable iter X.env x = pure x := by intro _; rfl) : DS Γ X E rm M (.For tg iter body [] pos) (tFor wi g tb) (sFor it h s) M (ws ++ wt) := ⟨ps_for hp hc hi.pi hg.pg hb.pss hs, snd_for hi.snd hg.snd hb.snd⟩

/-! ### while -/
def whileD (p : Env → Option Bool) (body : Sv) : Nat → Sv
  | 0, _ => none
  | n + 1, δ => (p δ).bind fun b => if b = true then (body δ).bind fun o => match o with | .nx δ1 => whileD p body n δ1 | o => some o else some (.nx δ)
def fuel : Nat := 2 ^ 40
def sWhile (p : Env → Option Bool) (body : Sv) : Sv := whileD p body fuel
theorem whileD_mono {p : Env → Option Bool} {body : Sv} : ∀ {n k : Nat} {δ : Env} {o : Out}, whileD p body n δ = some o → n ≤ k → whileD p body k δ = some o
  | 0, _, _, _, h, _ => by cases h
  | n + 1, 0, _, _, _, hk => by omega
  | n + 1, k + 1, δ, o, h, hk => by
    unfold whileD at h ⊢
    obtain ⟨b, e1, e2⟩ := bind_some h
    rw [e1, Option.bind_some]
    by_cases hb : b = true
    · rw [if_pos hb] at e2 ⊢
      obtain ⟨o1, e3, e4⟩ := bind_some e2
      rw [e3, Option.bind_some]
      cases o1 with
      | nx δ1 => exact whileD_mono e4 (by omega)
      | rt d => exact e4
      | ex c fs => exact e4
    · rw [if_neg hb] at e2 ⊢
      exact e2
theorem sWhile_of {p : Env → Option Bool} {body : Sv} {n : Nat} {δ : Env} {o : Out} (h : whileD p body n δ = some o) (hn : n ≤ fuel) : sWhile p body δ = some o := whileD_mono h hn
theorem snd_while {wt : List Nat} {E : WX} {rm : RM} {tc : TT} {p : Env → Option Bool} {tb : TS} {body : Sv} (hc : SndT K Γ M tc p) (hb : SndS K Γ E rm M tb body M wt) : SndS K Γ E rm M (tWhile tc tb) (sWhile p body) M wt := fun S0 H0 S H σ0 δ Dn o w ef k => by
  refine ⟨fun m σ H => ∃ S2 δ2, Wd K Γ S0 H0 S2 H σ M δ2 ∧ Same S S2 ∧ whileD p body m δ2 = some o ∧ Fr wt σ0 σ, ⟨fuel, S, δ, w, Same.refl _, ef, Fr.refl⟩, ?_⟩
  rintro m σ2 H2 ⟨S2, δ2, w2, s2, e2, f2⟩
  cases m with
  | zero => cases e2
  | succ n =>
    obtain ⟨b, e3, e4⟩ := bind_some e2
    refine hc S0 H0 S2 H2 σ2 δ2 _ b w2 e3 fun S3 H3 x3 => ?_
    cases b with
    | true =>
      rw [if_pos rfl] at e4 ⊢
      obtain ⟨o1, e5, e6⟩ := bind_some e4
      refine ⟨fun σ' H' => ∃ S4 δ4, Wd K Γ S0 H0 S4 H' σ' M δ4 ∧ Same S S4 ∧ whileD p body n δ4 = some o ∧ Fr wt σ0 σ', fun σ' H' q => ⟨n, Nat.lt_succ_self n, q⟩, ?_⟩
      refine hb S0 H0 S3 H3 σ2 δ2 _ o1 (w2.mono x3) e5 ?_
      cases o1 with
      | nx δ1 => exact fun S4 H4 σ4 s4 w4 f4 => ⟨S4, δ1, w4, (s2.trans x3.ss).trans s4, e6, f2.same f4⟩
      | rt d => cases e6; exact fun v S' H' σ' s5 w5 f5 => k v S' H' σ' ((s2.trans x3.ss).trans s5) w5 (f2.same f5)
      | ex c fs => cases e6; exact fun cls dd S' H' σ' s5 w5 f5 => k cls dd S' H' σ' ((s2.trans x3.ss).trans s5) w5 (f2.same f5)
    | false =>
      rw [if_neg Bool.false_ne_true] at e4 ⊢
      cases e4
      exact k S3 H3 σ2 (s2.trans x3.ss) (w2.mono x3) f2
theorem ds_while {wt : List Nat} {E : WX} {rm : RM} {c : Expr} {tc : TT} {p : Env → Option Bool} {body : List Stmt} {tb : TS} {s : Sv} (hp : PassesOwn (model X.prog X.w) X.A X.env X.xe) (hc : DT Γ X M c tc p) (hb : DSs Γ X E rm M body tb s M wt) : DS Γ X E rm M (.While c body [] pos) (tWhile tc tb) (sWhile p s) M wt :=
  ⟨ps_while hp hc.pt hb.pss, snd_while hc.snd hb.snd⟩

/-! ### comprehensions -/
def wipeE (δ : Env) : List Nat → Env
  | [] => δ
  | v :: vs => (wipeE δ vs).set v none
theorem wipeE_len (δ : Env) : ∀ vs, (wipeE δ vs).length = δ.length
  | [] => rfl
  | v :: vs => by unfold wipeE; rw [List.length_set, wipeE_len δ vs]
theorem wipeE_some {δ : Env} {i : Nat} {x : D} : ∀ {vs : List Nat}, (wipeE δ vs)[i]? = some (some x) → δ[i]? = some (some x) ∧ i ∉ vs
  | [], h => ⟨h, by simp⟩
  | v :: vs, h => by
    unfold wipeE at h
    by_cases hi : v = i
    · subst hi
      by_cases hv : v < (wipeE δ vs).length
      · rw [List.getElem?_set_self hv] at h; cases h
      · rw [List.getElem?_eq_none (by simpa using hv)] at h; cases h
    · rw [List.getElem?_set_ne hi] at h
      obtain ⟨h1, h2⟩ := wipeE_some h
      exact ⟨h1, by simp only [List.mem_cons, not_or]; exact ⟨fun e => hi e.symm, h2⟩⟩
theorem Wd.wipe {S0 H0 S H : Hp} {σ : St} {δ : Env} (w : Wd K Γ S0 H0 S H σ M δ) (vs : List Nat) : Wd K Γ S0 H0 S H (L2.wipe σ vs) M (wipeE δ vs) := by
  have key : ∀ {i : Nat} {d : D}, (wipeE δ vs)[i]? = some (some d) → (L2.wipe σ vs)[i]? = σ[i]? := fun {i d} h => by
    rw [wipe_get, if_neg (fun z => (wipeE_some h).2 z.1)]
  refine ⟨w.ext, by rw [wipe_length, wipeE_len, w.len], fun i d h => ?_, fun i d a h m s => ?_, fun i j di dj a b p h1 h2 m1 m2 s1 s2 => ?_, w.nord⟩
  · rw [key h]; exact w.slot i d (wipeE_some h).1
  · rw [key h] at s; exact w.own i d a (wipeE_some h).1 m s
  · rw [key h1] at s1; rw [key h2] at s2
    exact w.uniq i j di dj a b p (wipeE_some h1).1 (wipeE_some h2).1 m1 m2 s1 s2
def lcD (set : Hv) (p : Env → Option Bool) (elt : Ev) (δ : Env) : List D → Option (List D)
  | [] => some []
  | d :: ds => (set d δ).bind fun δ1 => (p δ1).bind fun b => if b = true then (elt δ1).bind fun y => (lcD set p elt δ ds).map (y :: ·) else lcD set p elt δ ds
def vLc (it : Env → Option (List D)) (set : Hv) (p : Env → Option Bool) (elt : Ev) (vs : List Nat) : Ev := fun δ => (it δ).bind fun ds => (lcD set p elt (wipeE δ vs) ds).map .lst
theorem lcD_len {set : Hv} {p : Env → Option Bool} {elt : Ev} {δ : Env} : ∀ {ds out : List D}, lcD set p elt δ ds = some out → out.length ≤ ds.length
  | [], out, h => by cases h; exact Nat.le_refl _
  | d :: ds, out, h => by
    obtain ⟨δ1, e1, e2⟩ := bind_some h
    obtain ⟨b, e3, e4⟩ := bind_some e2
    by_cases hb : b = true
    · rw [if_pos hb] at e4
      obtain ⟨y, e5, e6⟩ := bind_some e4
      cases q : lcD set p elt δ ds with
      | none => rw [q] at e6; cases e6
      | some o => rw [q] at e6; cases e6; exact Nat.succ_le_succ (lcD_len q)
    · rw [if_neg hb] at e4
      exact Nat.le_succ_of_le (lcD_len e4)
/-- what a comprehension walks: it stands from the walk's beginning on -/
def ItOkC (K : PySem.W.Frag) (Γ : CM) (S1 H1 : Hp) (J : It) (ds : List D) : Prop := ds.length ≤ sizeLine ∧ ∀ S H, Ext S1 H1 S H → ItAt K Γ J ds S H
def SndIC (K : PySem.W.Frag) (Γ : CM) (M : List Mode) (wi : TI) (f : Env → Option (List D)) : Prop :=
  ∀ S0 H0 S H σ δ R ds, Wd K Γ S0 H0 S H σ M δ → f δ = some ds → (∀ J S1 H1, Ext S H S1 H1 → ItOkC K Γ S1 H1 J ds → R J H1) → wi σ H R
structure DIC (Γ : CM) (X : Cx) (M : List Mode) (tg iter : Expr) (wi : TI) (f : Env → Option (List D)) : Prop where
  pi : PI X tg iter wi
  snd : SndIC X.K Γ M wi f
theorem SndI.c {wi : TI} {f : Env → Option (List D)} (h : SndI K Γ M wi f) : SndIC K Γ M wi f := fun S0 H0 S H σ δ R ds w ef k =>
  h S0 H0 S H σ δ R ds w ef fun J S1 H1 x1 ok => k J S1 H1 x1 ⟨ok.1, fun S2 H2 x2 => ok.2 S2 H2 ((w.ext.trans x1).trans x2) x2.ss⟩
theorem DI.c {wi : TI} {f : Env → Option (List D)} (h : DI Γ X M tg iter wi f) : DIC Γ X M tg iter wi f := ⟨h.pi, h.snd.c⟩
/-- a list in any mode -/
theorem dic_list {m : Mode} (ha : DE Γ X M e te f m) : DIC Γ X M tg e (iList X.K te) (iLstF f) := ⟨pi_list ha.pe, fun S0 H0 S H σ δ R ds w ef k => by
  obtain ⟨d, e1, e2⟩ := bind_some ef
  refine ha.snd S0 H0 S H σ δ _ d w e1 fun v S1 H1 x1 r1 _ => ?_
  have w1 := w.mono x1
  cases d with
  | lst es =>
    cases e2
    obtain ⟨p, vs, ev, hp, hl, rl⟩ := r1.lst x1.sh w1.h0
    exact ⟨p, ev, ⟨vs, SqL.of hp⟩, k _ S1 H1 x1 ⟨hl, fun S2 H2 x2 => itl_at (SqL.of (x2.hh _ _ hp)) (rl.mono x2.ss) x2.sh⟩⟩
  | scr ns =>
    cases e2
    obtain ⟨p, ev, hp, hl⟩ := r1.scr w1.h0
    exact ⟨p, ev, ⟨_, x1.sh.seq hp⟩, k _ S1 H1 x1 ⟨by rw [List.length_map]; exact len_scr hl, fun S2 H2 x2 => itl_at (x2.sh.seq (x2.ss.seq hp)) (RepL.ints ns) x2.sh⟩⟩
  | _ => cases e2⟩
theorem snd_lc {wi : TI} {it : Env → Option (List D)} {tt : TT} {p : Env → Option Bool} {elt : Ev} {vs : List Nat} (hi : SndIC K Γ M wi it) (hg : SndG K Γ M g h M1 ws) (hp : SndT K Γ M1 tt p) (he : SndE K Γ M1 te elt m) (hm : okS m = true) (hw : ∀ i ∈ ws, i ∈ vs) :
    SndE K Γ M (tLc wi g tt te vs) (vLc it h p elt vs) .ow := fun S0 H0 S H σ δ Q d w ef k => by
  obtain ⟨ds, e1, e2⟩ := bind_some ef
  cases q : lcD h p elt (wipeE δ vs) ds with
  | none => rw [q] at e2; cases e2
  | some out =>
    rw [q] at e2
    cases e2
    refine hi S0 H0 S H σ δ _ ds w e1 fun J S1 H1 x1 ok A hA => ?_
    have w1 := w.mono x1
    have sA : S1 A = none := Same.none x1.sh hA
    refine ⟨fun i m H' => m = ds.length - i ∧ i ≤ ds.length ∧ ∃ S2 acc vs1 rest, Ext S1 H1 S2 H' ∧ H' A = some (.lst vs1) ∧ S2 A = none ∧ RepL K Γ S2 acc vs1 ∧ acc.length ≤ i ∧ lcD h p elt (wipeE δ vs) (ds.drop i) = some rest ∧ acc ++ rest = out,
      ⟨_, rfl, Nat.zero_le _, S1, [], [], out, Ext.owned x1.sh hA _, upd_same, sA, rfl, Nat.le_refl _, q, rfl⟩, ?_⟩
    rintro i m H2 ⟨rfl, hi', S2, acc, vs1, rest, x2, hA2, sA2, r2, l2, e3, e4⟩
    have w2 := w1.mono x2
    have at_ := ok.2 S2 H2 x2
    by_cases hlt : i < ds.length
    · refine .inr ⟨(at_.go i ds[i] (List.getElem?_eq_getElem hlt)).1, fun H' => ∃ S3 acc vs1 rest, Ext S1 H1 S3 H' ∧ H' A = some (.lst vs1) ∧ S3 A = none ∧ RepL K Γ S3 acc vs1 ∧ acc.length ≤ i + 1 ∧ lcD h p elt (wipeE δ vs) (ds.drop (i + 1)) = some rest ∧ acc ++ rest = out,
        fun H' q => ⟨ds.length - (i + 1), by omega, rfl, hlt, q⟩, fun x H3 y => ?_⟩
      obtain ⟨S3, x3, r3⟩ := (at_.go i ds[i] (List.getElem?_eq_getElem hlt)).2 x H3 y
      rw [List.drop_eq_getElem_cons hlt] at e3
      obtain ⟨δ4, e5, e6⟩ := bind_some e3
      obtain ⟨b, e7, e8⟩ := bind_some e6
      refine hg S0 H0 S3 H3 _ _ x ds[i] _ δ4 ((w2.mono x3).wipe vs) r3 e5 fun σ4 w4 u4 => ⟨(u4 vs hw).trans (wipe_wipe σ vs), ?_⟩
      refine hp S0 H0 S3 H3 σ4 δ4 _ b w4 e7 fun S5 H5 x5 => ?_
      have x25 := (x2.trans x3).trans x5
      have keepA : ∀ {S' H'}, Ext S2 H2 S' H' → H' A = some (.lst vs1) ∧ S' A = none := fun {S' H'} z => ⟨z.hh _ _ hA2, z.fr A _ hA2 rfl sA2⟩
      cases b with
      | true =>
        rw [if_pos rfl] at e8 ⊢
        obtain ⟨y5, e9, e10⟩ := bind_some e8
        cases q5 : lcD h p elt (wipeE δ vs) (ds.drop (i + 1)) with
        | none => rw [q5] at e10; cases e10
        | some rest' =>
          rw [q5] at e10; cases e10
          refine (he.sh hm) S0 H0 S5 H5 σ4 δ4 _ y5 (w4.mono x5) e9 fun v6 S6 H6 x6 r6 _ => ?_
          have kA := keepA ((x3.trans x5).trans x6)
          have x26 := x25.trans x6
          have l1 : vs1.length = acc.length := r2.length
          refine ⟨vs1, kA.1, ?_, S6, acc ++ [y5], vs1 ++ [v6], rest', ⟨x26.ss, fun c o z => (upd_ne (fun e => by subst e; rw [hA] at z; cases z)).trans (x26.hh _ _ z), fun c o z => ?_, fun c o z t n => ?_⟩, upd_same, kA.2, ((r2.mono ((x3.trans x5).trans x6).ss).append (RepL.one r6)), ?_, rfl, by rw [List.append_assoc]; exact e4⟩
          · have := ok.1
            omega
          · have nc : c ≠ A := fun e => by subst e; rw [kA.2] at z; cases z
            rw [upd_ne nc]; exact x26.sh _ _ z
          · exact x26.fr c o z t n
          · rw [List.length_append, List.length_singleton]; omega
      | false =>
        rw [if_neg Bool.false_ne_true] at e8 ⊢
        have kA := keepA (x3.trans x5)
        exact ⟨S5, acc, vs1, rest, x25, kA.1, kA.2, r2.mono (x3.trans x5).ss, by omega, e8, e4⟩
    · have e : i = ds.length := by omega
      subst e
      rw [List.drop_length] at e3
      cases e3
      rw [List.append_nil] at e4
      subst e4
      refine .inl ⟨at_.stop, k _ S2 H2 (x1.trans x2) ⟨A, rfl, fun p hp => by rw [List.mem_singleton.mp hp]; exact sA2, vs1, hA2, Nat.le_trans l2 ok.1, r2⟩ fun _ => Fresh.one (h := fun a ea => ?_)⟩
      cases ea
      exact x1.hh.free hA
def tsYes : Env → Option Bool := fun _ => some true
structure DTs (Γ : CM) (X : Cx) (M : List Mode) (ifs : List Expr) (t : TT) (f : Env → Option Bool) : Prop where
  pts : PTs X ifs t
  snd : SndT X.K Γ M t f
theorem dts_nil : DTs Γ X M [] tYes tsYes := ⟨pts_nil, fun S0 H0 S H σ δ Q b w ef k => by cases ef; exact k S H (Ext.refl w.sH)⟩
theorem dts_one {c : Expr} {t : TT} {p : Env → Option Bool} (h : DT Γ X M c t p) : DTs Γ X M [c] t p := ⟨pts_one h.pt, h.snd⟩
theorem de_lc {elt : Expr} {ifs : List Expr} {scope : Scope} {own : List (Str × Nat)} {wi : TI} {it : Env → Option (List D)} {tt : TT} {p : Env → Option Bool} {fe : Ev} (hc : X.calm = true) (hN : X.N.Nodup) (ok : BlkOk X.N X.env.scope scope own) (hi : DIC Γ X M tg iter wi it)
    (hg : ∀ (s : Shared) (H : Hp) (C : Addr) (cl : List (Str × Addr)) (fp : List Addr), DG Γ (X.blk s H scope (compEnvC scope cl C X.env) fp) M tg g h M1 ws) (ht : ∀ (s : Shared) (H : Hp) (C : Addr) (cl : List (Str × Addr)) (fp : List Addr), DTs Γ (X.blk s H scope (compEnvC scope cl C X.env) fp) M1 ifs tt p)
    (he : ∀ (s : Shared) (H : Hp) (C : Addr) (cl : List (Str × Addr)) (fp : List Addr), DE Γ (X.blk s H scope (compEnvC scope cl C X.env) fp) M1 elt te fe m) (hm : okS m = true := by rfl) (hw : ∀ i ∈ ws, i ∈ own.map (·.2) := by decide) (hs : ∀ x, foldedSetIterable iter X.env x = pure x := by intro _; rfl) :
    DE Γ X M (.ListComp elt [⟨tg, iter, ifs, 0⟩] scope pos) (tLc wi g tt te (own.map (·.2))) (vLc it h p fe (own.map (·.2))) .ow :=
  ⟨pe_lc hc hN hi.pi ok (fun s H C cl fp => (hg s H C cl fp).pg) (fun s H C cl fp => (ht s H C cl fp).pts) (fun s H C cl fp => (he s H C cl fp).pe) hs,
    snd_lc hi.snd (hg X.s_0 X.H_0 0 [] []).snd (ht X.s_0 X.H_0 0 [] []).snd (he X.s_0 X.H_0 0 [] []).snd hm hw⟩
/-- name = [..] -/
theorem ds_setLc {E : WX} {rm : RM} {Mz : List Mode} {i : Nat} {y : Str} {py spos : Pos} {elt : Expr} {ifs : List Expr} {scope : Scope} {own : List (Str × Nat)} {wi : TI} {it : Env → Option (List D)} {tt : TT} {p : Env → Option Bool} {fe : Ev} (hc : X.calm = true) (hN : X.N.Nodup) (ok : BlkOk X.N X.env.scope scope own) (hi : DIC Γ X M tg iter wi it)
    (hg : ∀ (s : Shared) (H : Hp) (C : Addr) (cl : List (Str × Addr)) (fp : List Addr), DG Γ (X.blk s H scope (compEnvC scope cl C X.env) fp) M tg g h M1 ws) (ht : ∀ (s : Shared) (H : Hp) (C : Addr) (cl : List (Str × Addr)) (fp : List Addr), DTs Γ (X.blk s H scope (compEnvC scope cl C X.env) fp) M1 ifs tt p)
    (he : ∀ (s : Shared) (H : Hp) (C : Addr) (cl : List (Str × Addr)) (fp : List Addr), DE Γ (X.blk s H scope (compEnvC scope cl C X.env) fp) M1 elt te fe m) (hM : M.set i .ow = Mz := by rfl) (hm : okS m = true := by rfl) (hw : ∀ i ∈ ws, i ∈ own.map (·.2) := by decide) (hy : X.N[i]? = some y := by rfl) (hyl : X.env.scope.names.lookup y = some .local := by rfl) (hl : i < M.length := by decide)
    (hsw : swapsWith (.ListComp elt [⟨tg, iter, ifs, 0⟩] scope pos) (some (.Name y py)) spos.line X.env = pure true := by exact sw_true rfl rfl rfl (by decide +kernel)) (hs : ∀ x, foldedSetIterable iter X.env x = pure x := by intro _; rfl) :
    DS Γ X E rm M (.Assign [.Name y py] (.ListComp elt [⟨tg, iter, ifs, 0⟩] scope pos) spos) (tAsg (tLc wi g tt te (own.map (·.2))) (gName i)) (sSet i (vLc it h p fe (own.map (·.2)))) Mz [i] :=
  ⟨ps_setLc hc hN hy hyl hsw hi.pi ok (fun s H C cl fp => (hg s H C cl fp).pg) (fun s H C cl fp => (ht s H C cl fp).pts) (fun s H C cl fp => (he s H C cl fp).pe) hs,
    hM ▸ snd_set hl (.inl rfl) (snd_lc hi.snd (hg X.s_0 X.H_0 0 [] []).snd (ht X.s_0 X.H_0 0 [] []).snd (he X.s_0 X.H_0 0 [] []).snd hm hw)⟩
end
end Dl
/-! builtins, methods, stores into owned slots, defs. -/
namespace Dl
open PySem L2
theorem callR_or {X : Cx} {f : Value} {r r' : List V → Hp → VK → Prop} (h : CallR X f r) (h' : CallR X f r') : CallR X f (fun xs H Q => r xs H Q ∨ r' xs H Q) := by
  intro pins s σ H xs us Q I r q
  rcases q with q | q
  · exact h pins s σ H xs us Q I r q
  · exact h' pins s σ H xs us Q I r q
section
variable {K : PySem.W.Frag} {Γ : CM} {S H : Hp} {m m' : Mode} {d : D} {v : V} {vs : List V}
theorem ArgMs.get1 (r : ArgMs K Γ S H [m] [d] vs) : ∃ v, vs = [v] ∧ RepM K Γ H S H .bo d v := by
  obtain ⟨d', ds, v, vs', e1, e2, r, e3, e4⟩ := r
  cases e1
  subst e2 e4
  refine ⟨v, rfl, ?_⟩
  cases m with
  | sh => exact .inl r
  | _ => exact r
theorem ArgMs.get2 {d2 : D} (r : ArgMs K Γ S H [m, m'] [d, d2] vs) : ∃ v v2, vs = [v, v2] ∧ RepM K Γ H S H .bo d v ∧ RepM K Γ H S H .bo d2 v2 := by
  obtain ⟨d', ds, v, vs', e1, e2, r, t⟩ := r
  cases e1
  obtain ⟨v2, e3, r2⟩ := ArgMs.get1 t
  subst e2 e3
  refine ⟨v, v2, rfl, ?_, r2⟩
  cases m with
  | sh => exact .inl r
  | _ => exact r
end
/-! ### len -/
def opLen : List D → Option D
  | [.lst ds] => some (.int ds.length)
  | [.tup ds] => some (.int ds.length)
  | [.ktup ds] => some (.int ds.length)
  | [.scr ns] => some (.int ns.length)
  | [.str x] => some (.int x.length)
  | _ => none
theorem cd_len {X : Cx} {Γ : CM} : CD Γ X (.builtin "len") (fun xs H Q => ∃ x n, xs = [x] ∧ LenV X.K x H n ∧ Q (.int n) H) opLen [.bo] .sh := ⟨call_len, fun S H ds vs d Q sh r e k => by
  match ds, e, r with
  | [a], e, r =>
    obtain ⟨v, rfl, r1⟩ := ArgMs.get1 r
    cases a with
    | lst es => cases e; obtain ⟨p, ws, ev, hp, hl, rl⟩ := r1.lst sh (Same.refl _); exact ⟨v, _, rfl, by rw [ev]; exact .inl ⟨ws, SqL.of hp, rl.length.symm⟩, k.flat sh rfl⟩
    | tup es => cases e; obtain ⟨p, ws, ev, hp, hl, rl⟩ := r1.tup (Same.refl _); exact ⟨v, _, rfl, by rw [ev]; exact .inr ⟨ws, SqT.of (sh _ _ hp), rl.length.symm⟩, k.flat sh rfl⟩
    | ktup es => cases e; obtain ⟨p, ws, ev, hp, hl, rl⟩ := r1.ktup (Same.refl _); exact ⟨v, _, rfl, by rw [ev]; exact .inr ⟨ws, Same.sqt sh hp, rl.length.symm⟩, k.flat sh rfl⟩
    | scr ns => cases e; obtain ⟨p, ev, hp, hl⟩ := r1.scr (Same.refl _); exact ⟨v, _, rfl, by rw [ev]; exact .inl ⟨_, sh.seq hp, by rw [List.length_map]⟩, k.flat sh rfl⟩
    | str x => cases e; obtain ⟨ev, hl⟩ := r1.str (Same.refl _); exact ⟨v, _, rfl, by rw [ev]; exact ⟨hl, rfl⟩, k.flat sh rfl⟩
    | _ => cases e⟩
/-! ### isinstance -/
def tyName : D → Option String
  | .non => some "NoneType"
  | .bl _ => some "bool"
  | .int _ => some "int"
  | .str _ => some "str"
  | .lst _ => some "list"
  | .tup _ => some "tuple"
  | .dicK _ => some "dict"
  | .dicT _ => some "dict"
  | _ => none
def isiB (a b : String) : Bool := a == b || (a == "bool" && b == "int")
def opIsi : List D → Option D
  | [d, .ty n] => (tyName d).bind fun a => if kitB a n = some (isiB a n) then some (.bl (isiB a n)) else none
  | _ => none
theorem cd_isi {X : Cx} {Γ : CM} : CD Γ X (.builtin "isinstance") (rIsi X.K) opIsi [.bo, .sh] .sh := ⟨call_isi, fun S H ds vs d Q sh r e k => by
  match ds, e, r with
  | [a, b], e, r =>
    cases b with
    | ty n =>
      obtain ⟨v, v2, rfl, r1, r2⟩ := ArgMs.get2 r
      obtain ⟨t, e1, e2⟩ := bind_some e
      obtain ⟨hk, rfl⟩ := ite_some e2
      have ev2 : v2 = .ty n := r2.flat (Same.refl _) fun _ _ t => t
      refine ⟨v, v2, .type t, .type n, _, rfl, ev2 ▸ ClsV.ty n, ?_, kit_ty hk, k.flat sh rfl⟩
      cases a with
      | non => cases e1; rw [r1.non (Same.refl _)]; exact .base .non
      | bl b => cases e1; rw [r1.bl (Same.refl _)]; exact .base (.bl b)
      | int b => cases e1; rw [r1.int (Same.refl _)]; exact .base (.int b)
      | str b => cases e1; rw [(r1.str (Same.refl _)).1]; exact .base (.str b)
      | lst b => cases e1; obtain ⟨p, ws, ev, hp, _⟩ := r1.lst sh (Same.refl _); rw [ev]; exact .base (.lst hp)
      | tup b => cases e1; obtain ⟨p, ws, ev, hp, _⟩ := r1.tup (Same.refl _); rw [ev]; exact .base (.tup (sh _ _ hp))
      | dicK b => cases e1; obtain ⟨p, ws, ev, hp, _⟩ := r1.dicK sh (Same.refl _); rw [ev]; exact .base (.dK hp)
      | dicT b => cases e1; obtain ⟨p, ws, ev, hp, _⟩ := r1.dicT sh (Same.refl _); rw [ev]; exact .base (.dT hp)
      | _ => cases e1
    | _ => cases a <;> cases e⟩
section
variable {X : Cx} {Γ : CM} {M : List Mode} {e : Expr} {pos : Pos}
/-- int, str, list .. as values -/
theorem de_ty {x : Str} {n : String} (hm : X.mg x = none) (hv : bootBuiltins x = some (.type n) := by decide +kernel) (hg : Gl X x := by rfl) (hn : x ≠ ("__name__" : Str) := by decide) (hd : (x == ("__debug__" : Str)) = false := by decide) : DE Γ X M (.Name x pos) (tC (.ty n)) (vC (.ty n)) .sh :=
  ⟨pe_bltn hg hm hv rfl hn hd, snd_c fun _ => rfl⟩
end
/-! ### min, max -/
def minL : List Int → Int
  | [] => 0
  | n :: ns => ns.foldl min n
def maxL : List Int → Int
  | [] => 0
  | n :: ns => ns.foldl max n
theorem foldl_min_le : ∀ (ns : List Int) (a : Int), ns.foldl min a ≤ a ∧ (∀ x ∈ ns, ns.foldl min a ≤ x) ∧ (ns.foldl min a = a ∨ ns.foldl min a ∈ ns)
  | [], a => ⟨Int.le_refl _, (fun _ h => by cases h), .inl rfl⟩
  | n :: ns, a => by
    obtain ⟨h1, h2, h3⟩ := foldl_min_le ns (min a n)
    rw [List.foldl_cons]
    refine ⟨by omega, fun x hx => ?_, ?_⟩
    · rcases List.mem_cons.mp hx with rfl | hx
      · omega
      · exact h2 x hx
    · rcases h3 with h3 | h3
      · by_cases c : a ≤ n
        · left; omega
        · right; rw [h3]; rw [show min a n = n by omega]; exact List.mem_cons_self
      · exact .inr (List.mem_cons_of_mem _ h3)
theorem foldl_max_le : ∀ (ns : List Int) (a : Int), a ≤ ns.foldl max a ∧ (∀ x ∈ ns, x ≤ ns.foldl max a) ∧ (ns.foldl max a = a ∨ ns.foldl max a ∈ ns)
  | [], a => ⟨Int.le_refl _, (fun _ h => by cases h), .inl rfl⟩
  | n :: ns, a => by
    obtain ⟨h1, h2, h3⟩ := foldl_max_le ns (max a n)
    rw [List.foldl_cons]
    refine ⟨by omega, fun x hx => ?_, ?_⟩
    · rcases List.mem_cons.mp hx with rfl | hx
      · omega
      · exact h2 x hx
    · rcases h3 with h3 | h3
      · by_cases c : n ≤ a
        · left; omega
        · right; rw [h3]; rw [show max a n = n by omega]; exact List.mem_cons_self
      · exact .inr (List.mem_cons_of_mem _ h3)
theorem minL_spec {ns : List Int} (h : ns ≠ []) : minL ns ∈ ns ∧ ∀ x ∈ ns, minL ns ≤ x := by
  cases ns with
  | nil => exact absurd rfl h
  | cons n ns =>
    obtain ⟨h1, h2, h3⟩ := foldl_min_le ns n
    refine ⟨?_, fun x hx => ?_⟩
    · rcases h3 with h3 | h3
      · show ns.foldl min n ∈ _; rw [h3]; exact List.mem_cons_self
      · exact List.mem_cons_of_mem _ h3
    · rcases List.mem_cons.mp hx with rfl | hx
      · exact h1
      · exact h2 x hx
theorem maxL_spec {ns : List Int} (h : ns ≠ []) : maxL ns ∈ ns ∧ ∀ x ∈ ns, x ≤ maxL ns := by
  cases ns with
  | nil => exact absurd rfl h
  | cons n ns =>
    obtain ⟨h1, h2, h3⟩ := foldl_max_le ns n
    refine ⟨?_, fun x hx => ?_⟩
    · rcases h3 with h3 | h3
      · show ns.foldl max n ∈ _; rw [h3]; exact List.mem_cons_self
      · exact List.mem_cons_of_mem _ h3
    · rcases List.mem_cons.mp hx with rfl | hx
      · exact h1
      · exact h2 x hx

def intsOf : List D → Option (List Int)
  | [] => some []
  | .int i :: ds => (intsOf ds).map (i :: ·)
  | _ => none
theorem RepL.intsOf {K : PySem.W.Frag} {Γ : CM} {S : Hp} : ∀ {ds : List D} {vs : List V} {ns : List Int}, RepL K Γ S ds vs → intsOf ds = some ns → vs = ns.map V.int
  | [], _, _, r, h => by cases h; exact r
  | d :: ds, _, ns, ⟨v, ws, e, r, t⟩, h => by
    subst e
    cases d with
    | int i =>
      have h' : (Dl.intsOf ds).map (i :: ·) = some ns := h
      cases q : Dl.intsOf ds with
      | none => rw [q] at h'; cases h'
      | some ms => rw [q] at h'; cases h'; rw [List.map_cons, ← RepL.intsOf t q, show v = V.int i from r]
    | _ => cases h
def opMin : List D → Option D
  | [.lst ds] => (intsOf ds).bind fun ns => if ns = [] then none else some (.int (minL ns))
  | _ => none
def opMax : List D → Option D
  | [.lst ds] => (intsOf ds).bind fun ns => if ns = [] then none else some (.int (maxL ns))
  | _ => none
end Dl
namespace Dl
open PySem L2
section
variable {X : Cx} {Γ : CM}
theorem cd_min (hc : X.calm = true) : CD Γ X (.builtin "min") (rMin X.K) opMin [.bo] .sh := ⟨cr_min hc, fun S H ds vs d Q sh r e k => by
  match ds, e, r with
  | [a], e, r =>
    obtain ⟨v, rfl, r1⟩ := ArgMs.get1 r
    cases a with
    | lst es =>
      obtain ⟨ns, e1, e2⟩ := bind_some e
      obtain ⟨p, ws, ev, hp, hl, rl⟩ := r1.lst sh (Same.refl _)
      by_cases hn : ns = []
      · rw [if_pos hn] at e2; cases e2
      · rw [if_neg hn] at e2; cases e2
        obtain ⟨b1, b2⟩ := minL_spec hn
        refine ⟨p, ns, by rw [ev], by rw [← rl.intsOf e1]; exact SqL.of hp, List.length_pos_iff.mpr hn, fun m h1 h2 => ?_⟩
        have : m = minL ns := by have := b2 m h1; have := h2 _ b1; omega
        subst this
        exact k.flat sh rfl
    | _ => cases e⟩
theorem cd_max (hc : X.calm = true) : CD Γ X (.builtin "max") (rMax X.K) opMax [.bo] .sh := ⟨cr_max hc, fun S H ds vs d Q sh r e k => by
  match ds, e, r with
  | [a], e, r =>
    obtain ⟨v, rfl, r1⟩ := ArgMs.get1 r
    cases a with
    | lst es =>
      obtain ⟨ns, e1, e2⟩ := bind_some e
      obtain ⟨p, ws, ev, hp, hl, rl⟩ := r1.lst sh (Same.refl _)
      by_cases hn : ns = []
      · rw [if_pos hn] at e2; cases e2
      · rw [if_neg hn] at e2; cases e2
        obtain ⟨b1, b2⟩ := maxL_spec hn
        refine ⟨p, ns, by rw [ev], by rw [← rl.intsOf e1]; exact SqL.of hp, List.length_pos_iff.mpr hn, fun m h1 h2 => ?_⟩
        have : m = maxL ns := by have := b2 m h1; have := h2 _ b1; omega
        subst this
        exact k.flat sh rfl
    | _ => cases e⟩
def opMin2 : List D → Option D
  | [.int i, .int j] => some (.int (if j < i then j else i))
  | _ => none
def opMax2 : List D → Option D
  | [.int i, .int j] => some (.int (if j > i then j else i))
  | _ => none
theorem cd_min2 (hc : X.calm = true) : CD Γ X (.builtin "min") (fun xs H Q => ∃ i j, xs = [.int i, .int j] ∧ Q (.int (if j < i then j else i)) H) opMin2 [.sh, .sh] .sh := ⟨call_min2 hc, fun S H ds vs d Q sh r e k => by
  match ds, e, r with
  | [.int i, .int j], e, r => cases e; exact ⟨i, j, r.two, k.flat sh rfl⟩⟩
theorem cd_max2 (hc : X.calm = true) : CD Γ X (.builtin "max") (fun xs H Q => ∃ i j, xs = [.int i, .int j] ∧ Q (.int (if j > i then j else i)) H) opMax2 [.sh, .sh] .sh := ⟨call_max2 hc, fun S H ds vs d Q sh r e k => by
  match ds, e, r with
  | [.int i, .int j], e, r => cases e; exact ⟨i, j, r.two, k.flat sh rfl⟩⟩
def opAbs : List D → Option D
  | [.int i] => some (.int (if i < 0 then -i else i))
  | _ => none
theorem cd_abs : CD Γ X (.builtin "abs") (fun xs H Q => ∃ i, xs = [.int i] ∧ Q (.int (if i < 0 then -i else i)) H) opAbs [.sh] .sh := ⟨call_abs, fun S H ds vs d Q sh r e k => by
  match ds, e, r with
  | [.int i], e, r => cases e; exact ⟨i, r.one, k.flat sh rfl⟩⟩
/-! ### int, str -/
def opInt : List D → Option D
  | [.int i] => some (.int i)
  | [.bl b] => some (.int (if b then 1 else 0))
  | [.str x] => if x.length ≤ 640 then (PySem.intText? x).map D.int else none
  | _ => none
theorem cd_int : CD Γ X (.type "int") (fun xs H Q => ((∃ i, xs = [.int i] ∧ Q (.int i) H) ∨ ∃ k, xs = [.bl k] ∧ Q (.int (if k then 1 else 0)) H) ∨ ∃ a n, xs = [.str a] ∧ PySem.intText? a = some n ∧ a.length ≤ 640 ∧ Q (.int n) H) opInt [.sh] .sh :=
  ⟨callR_or call_int1 call_int_str, fun S H ds vs d Q sh r e k => by
  match ds, e, r with
  | [.int i], e, r => cases e; exact .inl (.inl ⟨i, r.one, k.flat sh rfl⟩)
  | [.bl b], e, r =>
    cases e
    obtain ⟨v, rfl, r1⟩ := ArgMs.get1 r
    exact .inl (.inr ⟨b, by rw [r1.bl (Same.refl _)], k.flat sh rfl⟩)
  | [.str x], e, r =>
    obtain ⟨v, rfl, r1⟩ := ArgMs.get1 r
    have e : (if x.length ≤ 640 then (PySem.intText? x).map D.int else none) = some d := e
    by_cases c : x.length ≤ 640
    · rw [if_pos c] at e
      cases q : PySem.intText? x with
      | none => rw [q] at e; cases e
      | some n => rw [q] at e; cases e; exact .inr ⟨x, n, by rw [(r1.str (Same.refl _)).1], q, c, k.flat sh rfl⟩
    · rw [if_neg c] at e; cases e⟩
def intStr (i : Int) : Str := toString i
def opStr : List D → Option D
  | [.int i] => if i.natAbs.log2 < 1920 ∧ (intStr i).length ≤ sizeLine then some (.str (intStr i)) else none
  | _ => none
theorem cd_str : CD Γ X (.type "str") (fun xs H Q => ∃ i, xs = [.int i] ∧ i.natAbs.log2 < 1920 ∧ Q (.str (toString i)) H) opStr [.sh] .sh := ⟨call_str_int, fun S H ds vs d Q sh r e k => by
  match ds, e, r with
  | [.int i], e, r => obtain ⟨c, rfl⟩ := ite_some e; exact ⟨i, r.one, c.1, k.flat sh ⟨rfl, c.2⟩⟩⟩
/-! ### list, tuple -/
def opList : List D → Option D
  | [.lst ds] => some (.lst ds)
  | [.tup ds] => some (.lst ds)
  | _ => none
theorem cd_list (hm : okS m = true) : CD Γ X (.type "list") (fun xs H Q => ∃ p ys, xs = [.ref p] ∧ (SqL X.K H p ys ∨ SqT X.K H p ys) ∧ ∀ l, H l = none → Q (.ref l) (upd H l (.lst ys))) opList [.bo] m := ⟨call_list_of, fun S H ds vs d Q sh r e k => by
  match ds, e, r with
  | [.lst es], e, r =>
    cases e
    obtain ⟨v, rfl, r1⟩ := ArgMs.get1 r
    obtain ⟨p, ws, ev, hp, hl, rl⟩ := r1.lst sh (Same.refl _)
    exact ⟨p, ws, by rw [ev], .inl (SqL.of hp), fun l h => k.newL hm sh hl rl h⟩
  | [.tup es], e, r =>
    cases e
    obtain ⟨v, rfl, r1⟩ := ArgMs.get1 r
    obtain ⟨p, ws, ev, hp, hl, rl⟩ := r1.tup (Same.refl _)
    exact ⟨p, ws, by rw [ev], .inr (SqT.of (sh _ _ hp)), fun l h => k.newL hm sh hl rl h⟩⟩
def opTuple : List D → Option D
  | [.lst ds] => some (.tup ds)
  | [.tup ds] => some (.tup ds)
  | _ => none
theorem cd_tuple : CD Γ X (.type "tuple") (fun xs H Q => ∃ p ys, xs = [.ref p] ∧ ((SqL X.K H p ys ∧ ∀ l, H l = none → Q (.ref l) (upd H l (.tup ys))) ∨ (SqT X.K H p ys ∧ Q (.ref p) H))) opTuple [.bo] .sh := ⟨call_tuple_of, fun S H ds vs d Q sh r e k => by
  match ds, e, r with
  | [.lst es], e, r =>
    cases e
    obtain ⟨v, rfl, r1⟩ := ArgMs.get1 r
    obtain ⟨p, ws, ev, hp, hl, rl⟩ := r1.lst sh (Same.refl _)
    exact ⟨p, ws, by rw [ev], .inl ⟨SqL.of hp, fun l h => k.newT sh hl rl h⟩⟩
  | [.tup es], e, r =>
    cases e
    obtain ⟨v, rfl, r1⟩ := ArgMs.get1 r
    obtain ⟨p, ws, ev, hp, hl, rl⟩ := r1.tup (Same.refl _)
    exact ⟨p, ws, by rw [ev], .inr ⟨SqT.of (sh _ _ hp), k.flat sh ⟨p, ws, rfl, hp, hl, rl⟩⟩⟩⟩
/-! ### all, any -/
def blsOf : List D → Option (List Bool)
  | [] => some []
  | .bl i :: ds => (blsOf ds).map (i :: ·)
  | _ => none
theorem RepL.blsOf {K : PySem.W.Frag} {S : Hp} : ∀ {ds : List D} {vs : List V} {ns : List Bool}, RepL K Γ S ds vs → blsOf ds = some ns → vs = ns.map V.bl
  | [], _, _, r, h => by cases h; exact r
  | d :: ds, _, ns, ⟨v, ws, e, r, t⟩, h => by
    subst e
    cases d with
    | bl i =>
      have h' : (Dl.blsOf ds).map (i :: ·) = some ns := h
      cases q : Dl.blsOf ds with
      | none => rw [q] at h'; cases h'
      | some ms => rw [q] at h'; cases h'; rw [List.map_cons, ← RepL.blsOf t q, show v = V.bl i from r]
    | _ => cases h
def opAll : List D → Option D
  | [.lst ds] => (blsOf ds).map fun bs => .bl (bs.all id)
  | _ => none
def opAny : List D → Option D
  | [.lst ds] => (blsOf ds).map fun bs => .bl (bs.any id)
  | _ => none
theorem cd_all (hc : X.calm = true) : CD Γ X (.builtin "all") (rAll X.K) opAll [.bo] .sh := ⟨cr_all hc, fun S H ds vs d Q sh r e k => by
  match ds, e, r with
  | [.lst es], e, r =>
    obtain ⟨v, rfl, r1⟩ := ArgMs.get1 r
    obtain ⟨p, ws, ev, hp, hl, rl⟩ := r1.lst sh (Same.refl _)
    have e : (blsOf es).map (fun bs => D.bl (bs.all id)) = some d := e
    cases q : blsOf es with
    | none => rw [q] at e; cases e
    | some bs => rw [q] at e; cases e; exact ⟨p, bs, by rw [ev], by rw [← RepL.blsOf rl q]; exact SqL.of hp, k.flat sh rfl⟩⟩
theorem cd_any (hc : X.calm = true) : CD Γ X (.builtin "any") (rAny X.K) opAny [.bo] .sh := ⟨cr_any hc, fun S H ds vs d Q sh r e k => by
  match ds, e, r with
  | [.lst es], e, r =>
    obtain ⟨v, rfl, r1⟩ := ArgMs.get1 r
    obtain ⟨p, ws, ev, hp, hl, rl⟩ := r1.lst sh (Same.refl _)
    have e : (blsOf es).map (fun bs => D.bl (bs.any id)) = some d := e
    cases q : blsOf es with
    | none => rw [q] at e; cases e
    | some bs => rw [q] at e; cases e; exact ⟨p, bs, by rw [ev], by rw [← RepL.blsOf rl q]; exact SqL.of hp, k.flat sh rfl⟩⟩
end

/-! ### stores into an owned slot -/
section
variable {X : Cx} {Γ : CM} {E : WX} {rm : RM} {m m' : Mode} {M : List Mode} {e a b : Expr} {te ta tb : TE} {f g : Ev} {pos apos cpos : Pos} {K : PySem.W.Frag}
theorem vVar_some {i : Nat} {δ : Env} {d : D} (h : vVar i δ = some d) : δ[i]? = some (some d) := by
  unfold vVar at h
  cases z : δ[i]? with
  | none => rw [z] at h; cases h
  | some o => rw [z] at h; cases o with
    | none => cases h
    | some x => cases h; rfl
def putL (i : Nat) (δ : Env) (ds : List D) : Out := .nx (δ.set i (some (.lst ds)))
def sApp (i : Nat) (f : Ev) : Sv := fun δ => (vVar i δ).bind fun l => match l with
  | .lst ds => (f δ).bind fun d => if ds.length < sizeLine then some (putL i δ (ds ++ [d])) else none
  | _ => none
theorem ds_append {i : Nat} {x : Str} {p : Pos} (hM : md M i = .ow) (he : DE Γ X M e te f m) (hm : okS m = true := by rfl) (hN : X.N[i]? = some x := by rfl) (hv : Vis X.env.scope x := by first | exact Or.inl rfl | exact Or.inr (Or.inl rfl) | exact Or.inr (Or.inr rfl)) (hd : (x == ("__debug__" : Str)) = false := by decide)
    (hcd : (x == ("__classdict__" : Str)) = false := by decide) (hbase : attributeBase (.Name x p) "append" X.env (eval (.Name x p) X.env) = eval (.Name x p) X.env := by rfl)
    (hfew : (((backTo cpos (starEach [e] X.env)).all (!·.1)) && ((backToKw cpos (keywordEach [] X.env)).all (·.1.isSome)) && decide (([e].length + ([] : List Keyword).length + if ([] : List Keyword).isEmpty = true then 0 else 1) < 30)) = true := by rfl) (hline : (apos.endLine == cpos.line) = true := by rfl)
    (h3 : starEach [e] X.env = (false, eval e X.env) :: starEach [] X.env := by rfl) (h4 : (backTo cpos (starEach [] X.env)).any (·.1) = false := by rfl) (hs : swapsWith (.Call (.Attribute (.Name x p) "append" apos) [e] [] cpos) none pos.line X.env = pure false := by rfl) :
    DS Γ X E rm M (.Expr (.Call (.Attribute (.Name x p) "append" apos) [e] [] cpos) pos) (tDrop (tBM X.K "list" rAppend (tVar i) (tCons te tNil))) (sApp i f) M [] :=
  ⟨ps_expr (pe_bm PySem.F.plainAttrs_list PySem.F.slot_list_append PySem.F.type_list_append mt_append (pe_var hN hv hd hcd) (pa_cons he.pe pa_nil h3) hbase hfew hline h3 h4) hs, fun S0 H0 S H σ δ Dn o w ef k => by
    obtain ⟨l, e1, e2⟩ := bind_some ef
    have hl := vVar_some e1
    cases l with
    | lst ds =>
      obtain ⟨d, e3, e4⟩ := bind_some e2
      obtain ⟨hlen, rfl⟩ := ite_some e4
      obtain ⟨p', hp, hS, vs, hH, hz, rl⟩ := w.owned hM hl
      refine ⟨_, hp, .inl ⟨rfl, vs, SqL.of hH⟩, ?_⟩
      refine (he.snd.sh hm) S0 H0 S H σ δ _ d w e3 fun v S1 H1 x1 r1 _ => ?_
      have r2 := rl.mono x1.ss
      refine ⟨p', vs, v, rfl, rfl, x1.hh _ _ hH, by rw [rl.length]; exact hlen, ?_⟩
      exact k S1 _ σ x1.ss ((w.mono x1).write hM hl hp ⟨_, upd_same, by rw [List.length_append, List.length_singleton]; omega, r2.append (RepL.one r1)⟩) Fr.refl
    | _ => cases e2⟩
def sExt (i : Nat) (f : Ev) : Sv := fun δ => (vVar i δ).bind fun l => match l with
  | .lst ds => (f δ).bind fun d => match d with
    | .lst es => if ds.length + es.length ≤ sizeLine then some (putL i δ (ds ++ es)) else none
    | _ => none
  | _ => none
theorem ds_extend {i : Nat} {x : Str} {p : Pos} (hM : md M i = .ow) (he : DE Γ X M e te f m) (hN : X.N[i]? = some x := by rfl) (hv : Vis X.env.scope x := by first | exact Or.inl rfl | exact Or.inr (Or.inl rfl) | exact Or.inr (Or.inr rfl)) (hd : (x == ("__debug__" : Str)) = false := by decide)
    (hcd : (x == ("__classdict__" : Str)) = false := by decide) (hbase : attributeBase (.Name x p) "extend" X.env (eval (.Name x p) X.env) = eval (.Name x p) X.env := by rfl)
    (hfew : (((backTo cpos (starEach [e] X.env)).all (!·.1)) && ((backToKw cpos (keywordEach [] X.env)).all (·.1.isSome)) && decide (([e].length + ([] : List Keyword).length + if ([] : List Keyword).isEmpty = true then 0 else 1) < 30)) = true := by rfl) (hline : (apos.endLine == cpos.line) = true := by rfl)
    (h3 : starEach [e] X.env = (false, eval e X.env) :: starEach [] X.env := by rfl) (h4 : (backTo cpos (starEach [] X.env)).any (·.1) = false := by rfl) (hs : swapsWith (.Call (.Attribute (.Name x p) "extend" apos) [e] [] cpos) none pos.line X.env = pure false := by rfl) :
    DS Γ X E rm M (.Expr (.Call (.Attribute (.Name x p) "extend" apos) [e] [] cpos) pos) (tDrop (tBM X.K "list" rExtend (tVar i) (tCons te tNil))) (sExt i f) M [] :=
  ⟨ps_expr (pe_bm PySem.F.plainAttrs_list PySem.F.slot_list_extend PySem.F.type_list_extend mt_extend (pe_var hN hv hd hcd) (pa_cons he.pe pa_nil h3) hbase hfew hline h3 h4) hs, fun S0 H0 S H σ δ Dn o w ef k => by
    obtain ⟨l, e1, e2⟩ := bind_some ef
    have hl := vVar_some e1
    cases l with
    | lst ds =>
      obtain ⟨d, e3, e4⟩ := bind_some e2
      cases d with
      | lst es =>
        obtain ⟨hlen, rfl⟩ := ite_some e4
        obtain ⟨p', hp, hS, vs, hH, hz, rl⟩ := w.owned hM hl
        refine ⟨_, hp, .inl ⟨rfl, vs, SqL.of hH⟩, ?_⟩
        refine he.snd S0 H0 S H σ δ _ _ w e3 fun v S1 H1 x1 r1 _ => ?_
        obtain ⟨p2, ws, ev, h2, l2, r2⟩ := r1.lst x1.sh (w.mono x1).h0
        subst ev
        refine ⟨p', p2, vs, ws, rfl, rfl, x1.hh _ _ hH, h2, by rw [rl.length, r2.length]; exact hlen, ?_⟩
        exact k S1 _ σ x1.ss ((w.mono x1).write hM hl hp ⟨_, upd_same, by rw [List.length_append]; omega, (rl.mono x1.ss).append r2⟩) Fr.refl
      | _ => cases e4
    | _ => cases e2⟩
end

/-! ### a def -/
def denOf (n np : Nat) (rm : Mode) (s : Sv) : List D → Option D := fun ds => if ds.length = np then (s (ds.map some ++ List.replicate (n - np) none)).bind fun o => match o with
  | .rt d => some d
  | .nx _ => if rm = .sh then some .non else none
  | .ex _ _ => none
  else none
def initM (n : Nat) (pm : List Mode) : List Mode := pm ++ List.replicate (n - pm.length) .sh
theorem start_get {N : List Str} {vs : List V} {i : Nat} {v : V} (h : vs[i]? = some v) : (L2.start N vs)[i]? = some (some v) := by
  unfold L2.start
  have hl : i < vs.length := (List.getElem?_eq_some_iff.mp h).1
  rw [List.getElem?_append_left (by rw [List.length_map]; exact hl), List.getElem?_map, h]
  rfl
theorem ArgMs.at {K : PySem.W.Frag} {Γ : CM} {S H : Hp} : ∀ {ms : List Mode} {ds : List D} {vs : List V} {i : Nat} {d : D}, ArgMs K Γ S H ms ds vs → ds[i]? = some d → ∃ v m, vs[i]? = some v ∧ ms[i]? = some m ∧ ArgM K Γ S H m d v
  | [], _, _, _, _, ⟨e, _⟩, h => by subst e; simp at h
  | m :: ms, _, _, 0, d, ⟨d', ds', v, vs', e1, e2, r, t⟩, h => by
    subst e1 e2
    have e : d' = d := Option.some.inj h
    subst e
    exact ⟨v, m, rfl, rfl, r⟩
  | m :: ms, _, _, i + 1, d, ⟨d', ds', v, vs', e1, e2, r, t⟩, h => by
    subst e1 e2
    exact ArgMs.at (i := i) t h
theorem Wd.begin {K : PySem.W.Frag} {Γ : CM} {S H : Hp} {N : List Str} {pm : List Mode} {ds : List D} {vs : List V} (sh : Same S H) (r : ArgMs K Γ S H pm ds vs) (hp : pm.all (fun m => m == .sh || m == .bo) = true) : Wd K Γ S H S H (L2.start N vs) (initM N.length pm) (ds.map some ++ List.replicate (N.length - pm.length) none) := by
  have hm : ∀ i, md (initM N.length pm) i = .sh ∨ md (initM N.length pm) i = .bo := fun i => by
    unfold md initM
    rw [List.getD_eq_getElem?_getD]
    by_cases hi : i < pm.length
    · rw [List.getElem?_append_left hi, List.getElem?_eq_getElem hi]
      have := List.all_eq_true.mp hp _ (List.getElem_mem hi)
      simpa using this
    · rw [List.getElem?_append_right (by omega)]
      cases q : (List.replicate (N.length - pm.length) Mode.sh)[i - pm.length]? with
      | none => exact .inl rfl
      | some m =>
        have := List.mem_of_getElem? q
        rw [List.mem_replicate] at this
        exact .inl this.2
  have ow : ∀ i, md (initM N.length pm) i ≠ .ow := fun i z => by rcases hm i with h | h <;> rw [h] at z <;> cases z
  obtain ⟨l1, l2⟩ := r.len
  refine ⟨Ext.refl sh, by unfold L2.start; simp [l1, l2], fun i d h => ?_, fun i d a h m s => (ow i m).elim, fun i j di dj a b p h1 h2 m1 m2 s1 s2 => (ow i m1).elim, fun i z => by rcases hm i with h | h <;> rw [h] at z <;> cases z⟩
  by_cases hi : i < ds.length
  · rw [List.getElem?_append_left (by rw [List.length_map]; exact hi), List.getElem?_map, List.getElem?_eq_getElem hi] at h
    have e : ds[i] = d := Option.some.inj (Option.some.inj h)
    obtain ⟨v, m, hv, hmi, ra⟩ := ArgMs.at r ((List.getElem?_eq_getElem hi).trans (congrArg some e))
    refine ⟨v, start_get hv, ?_⟩
    have em : md (initM N.length pm) i = m := by
      unfold md initM
      rw [List.getD_eq_getElem?_getD, List.getElem?_append_left (by omega), hmi]
      rfl
    rw [em]
    have hm' := hm i
    rw [em] at hm'
    rcases hm' with e | e
    · subst e; exact ra
    · subst e; exact ra
  · rw [List.getElem?_append_right (by rw [List.length_map]; omega)] at h
    have := List.mem_of_getElem? h
    rw [List.mem_replicate] at this
    cases this.2
section
variable {P : Program} {w : World} {K : PySem.W.Frag} {mg : Str → Option Value} {base : Heap} {Γ : CM}
theorem fn_ok {x qual : Str} {st : Stmt} {f : Addr} {fd : FuncData} {N ps : List Str} {k : Nat} {pm : List Mode} {rm : Mode} {s : Sv} {M' : List Mode} (F : Fun K x qual st f fd) (S : FnScope N ps (defScope st)) (hl : pm.length = ps.length) (hp : pm.all (fun m => m == .sh || m == .bo) = true) {M0 : List Mode} (hM : initM N.length pm = M0) {n np : Nat} (hn : N.length = n) (hnp : ps.length = np)
    (hbody : ∀ (cdv : Value) (A : Around) (outer : List PySem.Env) (s0 : Shared) (H : Hp) (E : XK), Room k (A.deeper (PyProof.Rows.envOfC qual (defScope st) s0.heap.objs.size f cdv)) →
      ∃ t ws, DSs Γ (cxOf CX0 P w K mg base N qual (defScope st) f cdv A outer s0 H E).nox W0 ⟨rm, [], []⟩ M0 (defBody st) t s M' ws) : FnOk P w K mg base CX0 (k + 1) f fd ps (spD K Γ pm rm (denOf n np rm s)) := by
  subst hM hn hnp
  refine F.ok S (fun vs H Q E h => ?_) (fun cdv A outer s0 H vs Q E hr h => ?_)
  · obtain ⟨S1, ds, r, _, ra, _⟩ := h
    rw [ra.len.1, hl]
  · obtain ⟨S1, ds, r, sh, ra, ed, kk⟩ := h
    obtain ⟨t, ws, hb⟩ := hbody cdv A outer s0 H E hr
    refine ⟨t, hb.pss, ?_⟩
    unfold denOf at ed
    have hds : ds.length = ps.length := ra.len.2.trans hl
    rw [if_pos hds] at ed
    obtain ⟨o, e1, e2⟩ := bind_some ed
    rw [← hl] at e1
    refine hb.snd S1 H S1 H _ _ _ o (Wd.begin sh ra hp) e1 ?_
    cases o with
    | nx δ =>
      have e2 : (if rm = .sh then some D.non else none) = some r := e2
      obtain ⟨c, rfl⟩ := ite_some e2
      subst c
      exact fun S2 H2 σ2 s2 w2 _ => kk .non S2 H2 w2.ext rfl fun z => by cases z
    | rt d =>
      cases e2
      exact fun v S2 H2 σ2 _ x2 _ r2 => kk v S2 H2 x2 r2.1 r2.2
    | ex c fs => cases e2
end
end Dl
namespace Dl
open PySem L2
/-! ### anything that is walked -/
theorem pi_or {X : Cx} {tg iter : Expr} {wi wi' : TI} (h : PI X tg iter wi) (h' : PI X tg iter wi') : PI X tg iter (fun σ H R => wi σ H R ∨ wi' σ H R) := by
  refine ⟨fun pins s σ H R I q => ?_⟩
  rcases q with q | q
  · exact h.run pins s σ H R I q
  · exact h'.run pins s σ H R I q
def itemsD : D → Option (List D)
  | .lst ds => some ds
  | .scr ns => some (ns.map D.int)
  | .tup ds => some ds
  | .ktup ds => some ds
  | .str x => some (signs x)
  | _ => none
def iAnyF (f : Ev) : Env → Option (List D) := fun δ => (f δ).bind itemsD
def iAny (K : PySem.W.Frag) (te : TE) : TI := fun σ H R => iList K te σ H R ∨ (iTup K te σ H R ∨ iStr te σ H R)
section
variable {X : Cx} {Γ : CM} {M : List Mode} {tg e : Expr} {te : TE} {f : Ev} {m : Mode}
theorem di_any (ha : DE Γ X M e te f m) (hm : okI m = true := by rfl) : DI Γ X M tg e (iAny X.K te) (iAnyF f) := ⟨pi_or (di_list ha hm).pi (pi_or (di_tup ha).pi (di_str ha).pi), fun S0 H0 S H σ δ R ds w ef k => by
  obtain ⟨d, e1, e2⟩ := bind_some ef
  cases d with
  | lst es => exact .inl ((di_list (tg := tg) ha hm).snd S0 H0 S H σ δ R ds w (by unfold iLstF; rw [e1]; exact e2) k)
  | scr es => exact .inl ((di_list (tg := tg) ha hm).snd S0 H0 S H σ δ R ds w (by unfold iLstF; rw [e1]; exact e2) k)
  | tup es => exact .inr (.inl ((di_tup (tg := tg) ha).snd S0 H0 S H σ δ R ds w (by unfold iTupF; rw [e1]; exact e2) k))
  | ktup es => exact .inr (.inl ((di_tup (tg := tg) ha).snd S0 H0 S H σ δ R ds w (by unfold iTupF; rw [e1]; exact e2) k))
  | str es => exact .inr (.inr ((di_str (tg := tg) ha).snd S0 H0 S H σ δ R ds w (by unfold iStrF; rw [e1]; exact e2) k))
  | _ => cases e2⟩
theorem dic_any (ha : DE Γ X M e te f m) : DIC Γ X M tg e (iAny X.K te) (iAnyF f) := ⟨pi_or (dic_list ha).pi (pi_or (di_tup ha).pi (di_str ha).pi), fun S0 H0 S H σ δ R ds w ef k => by
  obtain ⟨d, e1, e2⟩ := bind_some ef
  cases d with
  | lst es => exact .inl ((dic_list (tg := tg) ha).snd S0 H0 S H σ δ R ds w (by unfold iLstF; rw [e1]; exact e2) k)
  | scr es => exact .inl ((dic_list (tg := tg) ha).snd S0 H0 S H σ δ R ds w (by unfold iLstF; rw [e1]; exact e2) k)
  | tup es => exact .inr (.inl ((di_tup (tg := tg) ha).snd.c S0 H0 S H σ δ R ds w (by unfold iTupF; rw [e1]; exact e2) k))
  | ktup es => exact .inr (.inl ((di_tup (tg := tg) ha).snd.c S0 H0 S H σ δ R ds w (by unfold iTupF; rw [e1]; exact e2) k))
  | str es => exact .inr (.inr ((di_str (tg := tg) ha).snd.c S0 H0 S H σ δ R ds w (by unfold iStrF; rw [e1]; exact e2) k))
  | _ => cases e2⟩
/-! ### f'..' -/
def vFmt (f : Ev) : Ev := fun δ => (f δ).bind fun d => match d with
  | .str x => some (.str x)
  | .int i => if i.natAbs.log2 < 1920 ∧ (intStr i).length ≤ sizeLine then some (.str (intStr i)) else none
  | _ => none
theorem de_fmt {pos : Pos} (ha : DE Γ X M e te f m) : DE Γ X M (.FormattedValue e (-1) none pos) (tFmt te) (vFmt f) .sh := ⟨pe_fmt ha.pe, fun S0 H0 S H σ δ Q d w ef k => by
  obtain ⟨c, e1, e2⟩ := bind_some ef
  refine ha.snd S0 H0 S H σ δ _ c w e1 fun v S1 H1 x1 r1 _ => ?_
  have w1 := w.mono x1
  cases c with
  | str x => cases e2; obtain ⟨ev, hl⟩ := r1.str w1.h0; exact .inl ⟨x, ev, hl, (k.ext x1).flat x1.sh ⟨rfl, hl⟩⟩
  | int i => obtain ⟨c, rfl⟩ := ite_some e2; exact .inr ⟨i, r1.int w1.h0, c.1, (k.ext x1).flat x1.sh ⟨rfl, c.2⟩⟩
  | _ => cases e2⟩
inductive DJ (Γ : CM) (X : Cx) (M : List Mode) : List Expr → List TE → List Ev → Prop where
  | nil : DJ Γ X M [] [] []
  | cons {e : Expr} {t : TE} {f : Ev} {m : Mode} {es : List Expr} {ts : List TE} {fs : List Ev} (h : DE Γ X M e t f m) (r : DJ Γ X M es ts fs) : DJ Γ X M (e :: es) (t :: ts) (f :: fs)
theorem DJ.pj {es : List Expr} {ts : List TE} {fs : List Ev} (h : DJ Γ X M es ts fs) : PJ X es ts := by
  induction h with
  | nil => exact .nil
  | cons h r ih => exact .cons h.pe ih
def vJ : List Ev → Str → Env → Option Str
  | [], acc, _ => some acc
  | f :: fs, acc, δ => (f δ).bind fun d => match d with
    | .str y => if (acc ++ y).length ≤ sizeLine then vJ fs (acc ++ y) δ else none
    | _ => none
theorem DJ.snd {es : List Expr} {ts : List TE} {fs : List Ev} (h : DJ Γ X M es ts fs) : ∀ (acc out : Str) (S0 H0 S H : Hp) (σ : St) (δ : Env) (Q : Str → Hp → Prop), acc.length ≤ sizeLine → Wd X.K Γ S0 H0 S H σ M δ → vJ fs acc δ = some out → (∀ S' H', Ext S H S' H' → out.length ≤ sizeLine → Q out H') → tJs ts acc σ H Q := by
  induction h with
  | nil =>
    intro acc out S0 H0 S H σ δ Q ha w e k
    cases e
    exact k S H (Ext.refl w.sH) ha
  | cons h r ih =>
    intro acc out S0 H0 S H σ δ Q ha w e k
    obtain ⟨d, e1, e2⟩ := bind_some e
    refine h.snd S0 H0 S H σ δ _ d w e1 fun v S1 H1 x1 r1 _ => ?_
    cases d with
    | str y =>
      have e2 : (if (acc ++ y).length ≤ sizeLine then vJ _ (acc ++ y) δ else none) = some out := e2
      by_cases c : (acc ++ y).length ≤ sizeLine
      · rw [if_pos c] at e2
        exact ⟨y, (r1.str (w.mono x1).h0).1, c, ih (acc ++ y) out S0 H0 S1 H1 σ δ Q c (w.mono x1) e2 fun S2 H2 x2 hl => k S2 H2 (x1.trans x2) hl⟩
      · rw [if_neg c] at e2; cases e2
    | _ => cases e2
def vJoined (fs : List Ev) : Ev := fun δ => (vJ fs Str.empty δ).map D.str
theorem de_joined {v1 v2 : Expr} {rest : List Expr} {ts : List TE} {fs : List Ev} {pos : Pos} (h : DJ Γ X M (v1 :: v2 :: rest) ts fs) : DE Γ X M (.JoinedStr (v1 :: v2 :: rest) pos) (fun σ H Q => tJs ts Str.empty σ H fun out H1 => Q (.str out) H1) (vJoined fs) .sh := ⟨pe_joined h.pj, fun S0 H0 S H σ δ Q d w ef k => by
  unfold vJoined at ef
  cases q : vJ fs Str.empty δ with
  | none => rw [q] at ef; cases ef
  | some out =>
    rw [q] at ef; cases ef
    exact h.snd Str.empty out S0 H0 S H σ δ _ (Nat.zero_le _) w q fun S1 H1 x1 hl => (k.ext x1).flat x1.sh ⟨rfl, hl⟩⟩
end
/-! ### what the top has written -/
structure Dfn (K : PySem.W.Frag) (mg : Str → Option Value) (x qual : Str) (st : Stmt) (ps : List Str) where
  f : Addr
  fd : FuncData
  fn : Fun K x qual st f fd
  gl : mg x = some (.ref f)
  bd : Binds K fd ps []
section
variable {X : Cx} {Γ : CM} {M : List Mode} {e : Expr} {es : List Expr} {tr : TA} {fr : Env → Option (List D)} {m : Mode} {pos : Pos}
theorem de_callD {x qual : Str} {st : Stmt} {ps : List Str} {k : Nat} {p : Pos} {pm : List Mode} {den : List D → Option D} (T : Dfn X.K X.mg x qual st ps) (F : FnOk X.prog X.w X.K X.mg X.base CX0 k T.f T.fd ps (spD X.K Γ pm m den)) (hr : Room k X.A)
    (ha : DAr Γ X M (e :: es) tr fr pm) (hg : Gl X x := by rfl) (hm : okS m = true := by rfl) (h2 : (x == ("__debug__" : Str)) = false := by decide) (h3 : starEach (e :: es) X.env = (false, eval e X.env) :: starEach es X.env := by rfl) (h4 : (backTo pos (starEach es X.env)).any (·.1) = false := by rfl) :
    DE Γ X M (.Call (.Name x p) (e :: es) [] pos) (tCall (spD X.K Γ pm m den) [] E0 tr) (vC1 den fr) m := de_call F hr hg T.gl T.fn.kp T.bd ha hm h2 h3 h4
end
/-! ### the law -/
def spLaw (K : PySem.W.Frag) : Sp := fun vs H Q _ => ∃ (a : Addr) (ns : List Int), vs = [.ref a] ∧ SqL K H a (ns.map V.int) ∧ ns.length ≤ 63 ∧ ∀ H', Q (.bl true) H'
theorem law_of {P : Program} {w : World} {K : PySem.W.Frag} {mg : Str → Option Value} {base : Heap} {Γ : CM} {k : Nat} {f : Addr} {fd : FuncData} {ps : List Str} {m : Mode} {den : List D → Option D} (hm : m = .bo ∨ m = .sh)
    (hden : ∀ ns : List Int, ns.length ≤ 63 → den [.scr ns] = some (.bl true)) (F : FnOk P w K mg base CX0 k f fd ps (spD K Γ [m] .sh den)) : FnOk P w K mg base CX0 k f fd ps (spLaw K) :=
  F.imp fun vs H Q E ⟨a, ns, e, hS, hl, q⟩ => ⟨H, [.scr ns], .bl true, Same.refl _, ⟨_, [], .ref a, [], rfl, e, by
    have r : Rep K Γ H (.scr ns) (.ref a) := ⟨a, rfl, hS, hl⟩
    rcases hm with rfl | rfl
    · exact .inl r
    · exact r, rfl, rfl⟩, hden ns hl, fun v S' H' x r _ => by
    rw [show v = .bl true from r]; exact q H'⟩
end Dl
/-! the rules with the written part said: their readings don't hang on the context. -/
namespace Dl
open PySem L2
section
variable {X : Cx} {Γ : CM} (K : PySem.W.Frag) {M M1 : List Mode} {tg e a b c : Expr} {es : List Expr} {te ta tb : TE} {f g : Ev} {m ma mb : Mode} {pos : Pos} {ws : List Nat} {gs : TGs} {hs : List D → Env → Option Env}
theorem od_addK (hK : X.K = K := by rfl) : OpD Γ X (binaryOp .Add) (rAddD K) opAdd .sh := by subst hK; exact od_add
theorem od_eqK (hu : X.A.units + 64 < cLine) (hK : X.K = K := by rfl) : OpD Γ X (compareOp .Eq) (rEqP K Γ) opEq .sh := by subst hK; exact od_eq hu
theorem od_neK (hu : X.A.units + 64 < cLine) (hK : X.K = K := by rfl) : OpD Γ X (compareOp .NotEq) (rNeP K Γ) opNe .sh := by subst hK; exact od_ne hu
theorem od_inK (hu : X.A.units + 64 < cLine) (hK : X.K = K := by rfl) : OpD Γ X (compareOp .In) (rInP K Γ false) opIn .sh := by subst hK; exact od_in hu
theorem od_ninK (hu : X.A.units + 64 < cLine) (hK : X.K = K := by rfl) : OpD Γ X (compareOp .NotIn) (rInP K Γ true) opNin .sh := by subst hK; exact od_nin hu
theorem de_ixK (hu : X.A.units + 64 < cLine) (ha : DE Γ X M a ta f ma) (hb : DE Γ X M b tb g mb) (hs : PlainIx b := by exact fun _ _ => rfl) (hK : X.K = K := by rfl) : DE Γ X M (.Subscript a b pos) (tOp (rIxA K) ta tb) (v2 opIx f g) .sh := by subst hK; exact de_ix hu ha hb hs
theorem de_slK {lo hi : Option Expr} {tl th : TO} {l u : Env → Option (Option Int)} {p2 : Pos} (ha : DE Γ X M a ta f ma) (hl : DO Γ X M lo tl l) (hh : DO Γ X M hi th u) (hK : X.K = K := by rfl) : DE Γ X M (.Subscript a (.Slice lo hi none p2) pos) (tSl (rSlAll K) ta tl th) (vSl opSl f l u) .sh := by subst hK; exact de_sl ha hl hh
theorem de_slLK {lo hi : Option Expr} {tl th : TO} {l u : Env → Option (Option Int)} {p2 : Pos} (ha : DE Γ X M a ta f ma) (hl : DO Γ X M lo tl l) (hh : DO Γ X M hi th u) (hK : X.K = K := by rfl) : DE Γ X M (.Subscript a (.Slice lo hi none p2) pos) (tSl (rSlL K) ta tl th) (vSl opSlL f l u) .ow := by subst hK; exact de_slL ha hl hh
theorem de_fldK {x : Str} (T : ∀ c, ClsOk K Γ c x) (ha : DE Γ X M e te f m) (hb : attributeBase e x X.env (eval e X.env) = eval e X.env := by rfl) (hK : X.K = K := by rfl) : DE Γ X M (.Attribute e x pos) (tFld K te x) (vFld x f) .sh := by subst hK; exact de_fld T ha hb
theorem cd_lenK (hK : X.K = K := by rfl) : CD Γ X (.builtin "len") (fun xs H Q => ∃ x n, xs = [x] ∧ LenV K x H n ∧ Q (.int n) H) opLen [.bo] .sh := by subst hK; exact cd_len
theorem cd_isiK (hK : X.K = K := by rfl) : CD Γ X (.builtin "isinstance") (rIsi K) opIsi [.bo, .sh] .sh := by subst hK; exact cd_isi
theorem cd_minK (hc : X.calm = true) (hK : X.K = K := by rfl) : CD Γ X (.builtin "min") (rMin K) opMin [.bo] .sh := by subst hK; exact cd_min hc
theorem cd_maxK (hc : X.calm = true) (hK : X.K = K := by rfl) : CD Γ X (.builtin "max") (rMax K) opMax [.bo] .sh := by subst hK; exact cd_max hc
theorem cd_listK (hm : okS m = true) (hK : X.K = K := by rfl) : CD Γ X (.type "list") (fun xs H Q => ∃ p ys, xs = [.ref p] ∧ (SqL K H p ys ∨ SqT K H p ys) ∧ ∀ l, H l = none → Q (.ref l) (upd H l (.lst ys))) opList [.bo] m := by subst hK; exact cd_list hm
theorem cd_tupleK (hK : X.K = K := by rfl) : CD Γ X (.type "tuple") (fun xs H Q => ∃ p ys, xs = [.ref p] ∧ ((SqL K H p ys ∧ ∀ l, H l = none → Q (.ref l) (upd H l (.tup ys))) ∨ (SqT K H p ys ∧ Q (.ref p) H))) opTuple [.bo] .sh := by subst hK; exact cd_tuple
theorem cd_allK (hc : X.calm = true) (hK : X.K = K := by rfl) : CD Γ X (.builtin "all") (rAll K) opAll [.bo] .sh := by subst hK; exact cd_all hc
theorem cd_anyK (hc : X.calm = true) (hK : X.K = K := by rfl) : CD Γ X (.builtin "any") (rAny K) opAny [.bo] .sh := by subst hK; exact cd_any hc
theorem di_anyK (ha : DE Γ X M e te f m) (hm : okI m = true := by rfl) (hK : X.K = K := by rfl) : DI Γ X M tg e (iAny K te) (iAnyF f) := by subst hK; exact di_any ha hm
theorem dic_anyK (ha : DE Γ X M e te f m) (hK : X.K = K := by rfl) : DIC Γ X M tg e (iAny K te) (iAnyF f) := by subst hK; exact dic_any ha
theorem dg_tupK {k n : Nat} (hc : X.calm = true) (h : DGs Γ X M es gs hs M1 ws) (hn : (assignEach es X.env).length = n := by rfl) (hst : (assignEach es X.env).findIdx? (·.1) = none := by rfl) (hK : X.K = K := by rfl) : DG Γ X M (.Tuple es k pos) (gTup K n gs) (hTup n hs) M1 ws := by subst hK; exact dg_tup hc h hn hst
theorem de_callDK {mg : Str → Option Value} {tr : TA} {fr : Env → Option (List D)} {x qual : Str} {st : Stmt} {ps : List Str} {k : Nat} {p : Pos} {pm : List Mode} {den : List D → Option D} (T : Dfn K mg x qual st ps) (F : FnOk X.prog X.w K mg X.base CX0 k T.f T.fd ps (spD K Γ pm m den)) (hr : Room k X.A)
    (ha : DAr Γ X M (e :: es) tr fr pm) (hg : Gl X x := by rfl) (hm : okS m = true := by rfl) (h2 : (x == ("__debug__" : Str)) = false := by decide) (h3 : starEach (e :: es) X.env = (false, eval e X.env) :: starEach es X.env := by rfl) (h4 : (backTo pos (starEach es X.env)).any (·.1) = false := by rfl) (hK : X.K = K := by rfl) (hmg : X.mg = mg := by rfl) :
    DE Γ X M (.Call (.Name x p) (e :: es) [] pos) (tCall (spD K Γ pm m den) [] E0 tr) (vC1 den fr) m := by subst hK hmg; exact de_callD T F hr ha hg hm h2 h3 h4
end
end Dl
/-! methods of texts. -/
namespace Dl
open PySem L2
structure MD (Γ : CM) (X : Cx) (id : String) (r : V → List V → Hp → VK → Prop) (op : Str → List D → Option D) (ms : List Mode) (m : Mode) : Prop where
  mt : MtR X id r
  snd : ∀ S H x ds vs d Q, Same S H → x.length ≤ sizeLine → ArgMs X.K Γ S H ms ds vs → op x ds = some d → Kont X.K Γ H S H m d Q → r (.str x) vs H Q
def vM (op : Str → List D → Option D) (f : Ev) (g : Env → Option (List D)) : Ev := fun δ => (f δ).bind fun a => (g δ).bind fun ds => match a with | .str x => op x ds | _ => none
section
variable {X : Cx} {Γ : CM} {M : List Mode} {o e : Expr} {es : List Expr} {to : TE} {tr : TA} {f : Ev} {fr : Env → Option (List D)} {m mo : Mode} {ms : List Mode} {name : Str} {apos cpos : Pos} {id : String} {r : V → List V → Hp → VK → Prop} {op : Str → List D → Option D}
theorem de_bm (K : PySem.W.Frag) (slot : Slot "str" name id) (hty : typeOf (.builtin id) = pure (.type "method_descriptor")) (md : MD Γ X id r op ms m) (ho : DE Γ X M o to f mo) (ha : DAr Γ X M (e :: es) tr fr ms) (hm : okS m = true := by rfl)
    (h1 : attributeBase o name X.env (eval o X.env) = eval o X.env := by rfl)
    (h2 : (((backTo cpos (starEach (e :: es) X.env)).all (!·.1)) && ((backToKw cpos (keywordEach [] X.env)).all (·.1.isSome)) && decide (((e :: es).length + ([] : List Keyword).length + if ([] : List Keyword).isEmpty = true then 0 else 1) < 30)) = true := by rfl) (h3 : (apos.endLine == cpos.line) = true := by rfl)
    (h4 : starEach (e :: es) X.env = (false, eval e X.env) :: starEach es X.env := by rfl) (h5 : (backTo cpos (starEach es X.env)).any (·.1) = false := by rfl) (hK : X.K = K := by rfl) :
    DE Γ X M (.Call (.Attribute o name apos) (e :: es) [] cpos) (tBM K "str" r to tr) (vM op f fr) m := by
  subst hK
  exact ⟨pe_bm PySem.F.plainAttrs_str slot hty md.mt ho.pe ha.pa h1 h2 h3 h4 h5, fun S0 H0 S H σ δ Q d w ef k => by
    obtain ⟨a, e1, e2⟩ := bind_some ef
    obtain ⟨ds, e3, e4⟩ := bind_some e2
    refine ho.snd S0 H0 S H σ δ _ a w e1 fun v S1 H1 x1 r1 _ => ?_
    cases a with
    | str x =>
      obtain ⟨ev, hl⟩ := r1.str (w.mono x1).h0
      subst ev
      refine ⟨rfl, ?_⟩
      exact ha.snd S0 H0 S1 H1 σ δ _ ds (w.mono x1) e3 fun vs S2 H2 x2 r2 => md.snd S2 H2 x ds vs d Q x2.sh hl r2 e4 ((k.ext (x1.trans x2)).h0 hm)
    | _ => cases e4⟩
def vM0 (op : Str → List D → Option D) (f : Ev) : Ev := fun δ => (f δ).bind fun a => match a with | .str x => op x [] | _ => none
theorem de_bm0 (K : PySem.W.Frag) (slot : Slot "str" name id) (hty : typeOf (.builtin id) = pure (.type "method_descriptor")) (md : MD Γ X id r op [] m) (ho : DE Γ X M o to f mo) (hm : okS m = true := by rfl)
    (h1 : attributeBase o name X.env (eval o X.env) = eval o X.env := by rfl) (h3 : (apos.endLine == cpos.line) = true := by rfl) (hK : X.K = K := by rfl) :
    DE Γ X M (.Call (.Attribute o name apos) [] [] cpos) (tBM0 K "str" r to) (vM0 op f) m := by
  subst hK
  exact ⟨pe_bm0 PySem.F.plainAttrs_str slot hty md.mt ho.pe h1 h3, fun S0 H0 S H σ δ Q d w ef k => by
    obtain ⟨a, e1, e4⟩ := bind_some ef
    refine ho.snd S0 H0 S H σ δ _ a w e1 fun v S1 H1 x1 r1 _ => ?_
    cases a with
    | str x =>
      obtain ⟨ev, hl⟩ := r1.str (w.mono x1).h0
      subst ev
      exact ⟨rfl, md.snd S1 H1 x [] [] d Q x1.sh hl ⟨rfl, rfl⟩ e4 ((k.ext x1).h0 hm)⟩
    | _ => cases e4⟩
/-! the methods -/
theorem ArgMs.str1 {K : PySem.W.Frag} {S H : Hp} {m : Mode} {y : Str} {vs : List V} (r : ArgMs K Γ S H [m] [.str y] vs) : vs = [.str y] ∧ y.length ≤ sizeLine := by
  obtain ⟨v, e, r1⟩ := ArgMs.get1 r
  obtain ⟨e2, h⟩ := r1.str (Same.refl _)
  exact ⟨by rw [e, e2], h⟩
def mFind (x : Str) : List D → Option D
  | [.str y] => some (.int (Txt.find x y))
  | _ => none
theorem md_find : MD Γ X "str.find" (fun x xs H Q => ∃ a b, x = .str a ∧ xs = [.str b] ∧ Q (.int (Txt.find a b)) H) mFind [.sh] .sh := ⟨mt_find, fun S H x ds vs d Q sh hx r e k => by
  match ds, e, r with
  | [.str y], e, r => cases e; exact ⟨x, y, rfl, r.str1.1, k.flat sh rfl⟩⟩
def mCount (x : Str) : List D → Option D
  | [.str y] => some (.int (Txt.count x y))
  | _ => none
theorem md_count : MD Γ X "str.count" (fun x xs H Q => ∃ a b, x = .str a ∧ xs = [.str b] ∧ Q (.int (Txt.count a b)) H) mCount [.sh] .sh := ⟨mt_count, fun S H x ds vs d Q sh hx r e k => by
  match ds, e, r with
  | [.str y], e, r => cases e; exact ⟨x, y, rfl, r.str1.1, k.flat sh rfl⟩⟩
def mLower (x : Str) : List D → Option D
  | [] => if x.length ≤ 5592405 ∧ (Txt.lower x).length ≤ sizeLine then some (.str (Txt.lower x)) else none
  | _ => none
theorem md_lower : MD Γ X "str.lower" (fun x xs H Q => ∃ a, x = .str a ∧ xs = [] ∧ a.length ≤ 5592405 ∧ Q (.str (Txt.lower a)) H) mLower [] .sh := ⟨mt_lower, fun S H x ds vs d Q sh hx r e k => by
  match ds, e, r with
  | [], e, r => obtain ⟨c, rfl⟩ := ite_some e; exact ⟨x, rfl, r.2, c.1, k.flat sh ⟨rfl, c.2⟩⟩⟩
def mUpper (x : Str) : List D → Option D
  | [] => if x.length ≤ 5592405 ∧ (Txt.upper x).length ≤ sizeLine then some (.str (Txt.upper x)) else none
  | _ => none
theorem md_upper : MD Γ X "str.upper" (fun x xs H Q => ∃ a, x = .str a ∧ xs = [] ∧ a.length ≤ 5592405 ∧ Q (.str (Txt.upper a)) H) mUpper [] .sh := ⟨mt_upper, fun S H x ds vs d Q sh hx r e k => by
  match ds, e, r with
  | [], e, r => obtain ⟨c, rfl⟩ := ite_some e; exact ⟨x, rfl, r.2, c.1, k.flat sh ⟨rfl, c.2⟩⟩⟩
def strsOf : List D → Option (List Str)
  | [] => some []
  | .str i :: ds => (strsOf ds).map (i :: ·)
  | _ => none
theorem RepL.strsOf {K : PySem.W.Frag} {S : Hp} : ∀ {ds : List D} {vs : List V} {ns : List Str}, RepL K Γ S ds vs → strsOf ds = some ns → vs = ns.map V.str
  | [], _, _, r, h => by cases h; exact r
  | d :: ds, _, ns, ⟨v, ws, e, r, t⟩, h => by
    subst e
    cases d with
    | str i =>
      have h' : (Dl.strsOf ds).map (i :: ·) = some ns := h
      cases q : Dl.strsOf ds with
      | none => rw [q] at h'; cases h'
      | some ms => rw [q] at h'; cases h'; rw [List.map_cons, ← RepL.strsOf t q, r.1]
    | _ => cases h
end
end Dl
namespace Dl
open PySem L2
section
variable {X : Cx} {Γ : CM} {M M1 : List Mode} {E : WX} {rm : RM}
/-- a, b = e1, e2 -/
def sPar (i j : Nat) (f : Env → Option (List D)) : Sv := fun δ => (f δ).bind fun ds => match ds with
  | [d, e] => some (.nx ((δ.set i (some d)).set j (some e)))
  | _ => none
theorem ds_par {i j : Nat} {x y : Str} {a b : Expr} {ta : TA} {f : Env → Option (List D)} {px py pt pos : Pos} {kt k2 pt2} (hc : X.calm = true) (hN : X.N.Nodup) (ha : DAr Γ X M [a, b] ta f [.sh, .sh]) (hM : (M.set i .sh).set j .sh = M1 := by rfl) (hi : X.N[i]? = some x := by rfl) (hj : X.N[j]? = some y := by rfl) (hij : i ≠ j := by decide)
    (hx : X.env.scope.names.lookup x = some .local := by rfl) (hy : X.env.scope.names.lookup y = some .local := by rfl) (l1 : i < M.length := by decide) (l2 : j < M.length := by decide)
    (hw : swappedStores [.Tuple [.Name x px, .Name y py] kt pt] (.Tuple [a, b] k2 pt2) X.env = pure (some [x, y]) := by rfl)
    (hs : swapsWithSole [.Tuple [.Name x px, .Name y py] kt pt] (.Tuple [a, b] k2 pt2) pos.line X.env = pure false := by rfl) :
    DS Γ X E rm M (.Assign [.Tuple [.Name x px, .Name y py] kt pt] (.Tuple [a, b] k2 pt2) pos) (tPar i j ta) (sPar i j f) M1 ([i] ++ [j]) :=
  ⟨ps_par hc hN hi hj hij hx hy ha.pa hw hs, fun S0 H0 S H σ δ Dn o w ef k => by
    subst hM
    obtain ⟨ds, e1, e2⟩ := bind_some ef
    match ds, e2, e1 with
    | [d, e], e2, e1 =>
      cases e2
      refine ha.snd S0 H0 S H σ δ _ _ w e1 fun vs S1 H1 x1 r1 => ?_
      obtain ⟨d', ds', v, vs', q1, q2, r, t⟩ := r1
      obtain ⟨e', es', v', vs2, q3, q4, r', t', t''⟩ := t
      cases q1
      cases q3
      subst q2 q4 t''
      have w1 := (w.mono x1).store l1 (.inl rfl) (m := .sh) r (fun z => by cases z) fun z => by cases z
      have w2 := w1.store (i := j) (by rw [List.length_set]; exact l2) (.inl rfl) (m := .sh) r' (fun z => by cases z) fun z => by cases z
      exact ⟨v, v', rfl, k S1 H1 _ x1.ss w2 (Fr.set.trans Fr.set)⟩⟩
def mJoin (x : Str) : List D → Option D
  | [.lst ds] => (strsOf ds).bind fun ys => if (ys.map (·.length)).sum + ys.length * x.length ≤ 16777216 ∧ (Txt.join x ys).length ≤ sizeLine then some (.str (Txt.join x ys)) else none
  | _ => none
theorem md_join (K : PySem.W.Frag) (hK : X.K = K := by rfl) : MD Γ X "str.join" (fun x xs H Q => ∃ a p, ∃ ys : List Str, x = .str a ∧ xs = [.ref p] ∧ (SqL K H p (ys.map V.str) ∨ SqT K H p (ys.map V.str)) ∧
    (ys.map (·.length)).sum + ys.length * a.length ≤ 16777216 ∧ Q (.str (Txt.join a ys)) H) mJoin [.bo] .sh := by
  subst hK
  exact ⟨mt_join, fun S H x ds vs d Q sh hx r e k => by
    match ds, e, r with
    | [.lst es], e, r =>
      obtain ⟨ys, e1, e2⟩ := bind_some e
      obtain ⟨c, rfl⟩ := ite_some e2
      obtain ⟨v, rfl, r1⟩ := ArgMs.get1 r
      obtain ⟨p, ws, ev, hp, hl, rl⟩ := r1.lst sh (Same.refl _)
      exact ⟨x, p, ys, rfl, by rw [ev], .inl (by rw [← RepL.strsOf rl e1]; exact SqL.of hp), c.1, k.flat sh ⟨rfl, c.2⟩⟩⟩
end
end Dl
namespace Dl
open PySem L2
section
variable {X : Cx} {Γ : CM} {M : List Mode} {pos : Pos}
theorem de_gstr {x s : Str} {t : Tok} (hm : X.mg x = some (.str s t)) (hl : s.length ≤ sizeLine := by decide +kernel) (hg : Gl X x := by rfl) (hd : (x == ("__debug__" : Str)) = false := by decide) : DE Γ X M (.Name x pos) (tC (.str s)) (vC (.str s)) .sh := de_glob hg hm ⟨_, rfl⟩ (fun _ => ⟨rfl, hl⟩) hd
theorem de_gint {x : Str} {i : Int} {t : Tok} (hm : X.mg x = some (.int i t)) (hg : Gl X x := by rfl) (hd : (x == ("__debug__" : Str)) = false := by decide) : DE Γ X M (.Name x pos) (tC (.int i)) (vC (.int i)) .sh := de_glob hg hm ⟨_, rfl⟩ (fun _ => rfl) hd
end
end Dl
/-! dicts: displays, stores; stores into lists. -/
namespace Dl
open PySem L2
section
variable {κ : Type} [DecidableEq κ]
def putD (kvs : List (κ × D)) (k : κ) (d : D) : List (κ × D) := if (kvs.any fun kv => decide (kv.1 = k)) = true then kvs.map (fun kv => if kv.1 = k then (kv.1, d) else kv) else kvs ++ [(k, d)]
def mergeD (kvs more : List (κ × D)) : List (κ × D) := more.foldl (fun acc kv => putD acc kv.1 kv.2) kvs
end
section
variable {K : PySem.W.Frag} {Γ : CM} {S H : Hp}
theorem RepK.any (k : Key) : ∀ {ds : List (Key × D)} {vs : List (Key × V)}, RepK K Γ S ds vs → (vs.any fun kv => decide (kv.1 = k)) = ds.any fun kv => decide (kv.1 = k)
  | [], _, h => by cases (show _ = [] from h); rfl
  | (j, d) :: ds, _, ⟨v, ws, e, r, t⟩ => by subst e; rw [List.any_cons, List.any_cons, RepK.any k t]
theorem RepK.map {k : Key} {d : D} {v : V} (r : Rep K Γ S d v) : ∀ {ds : List (Key × D)} {vs : List (Key × V)}, RepK K Γ S ds vs → RepK K Γ S (ds.map fun kv => if kv.1 = k then (kv.1, d) else kv) (vs.map fun kv => if kv.1 = k then (kv.1, v) else kv)
  | [], _, h => by cases (show _ = [] from h); rfl
  | (j, x) :: ds, _, ⟨y, ws, e, q, t⟩ => by
    subst e
    rw [List.map_cons, List.map_cons]
    by_cases c : j = k
    · subst c; rw [if_pos rfl, if_pos rfl]; exact ⟨v, _, rfl, r, RepK.map r t⟩
    · rw [if_neg c, if_neg c]; exact ⟨y, _, rfl, q, RepK.map r t⟩
theorem RepK.snoc {k : Key} {d : D} {v : V} (r : Rep K Γ S d v) : ∀ {ds : List (Key × D)} {vs : List (Key × V)}, RepK K Γ S ds vs → RepK K Γ S (ds ++ [(k, d)]) (vs ++ [(k, v)])
  | [], _, h => by cases (show _ = [] from h); exact ⟨v, [], rfl, r, rfl⟩
  | (j, x) :: ds, _, ⟨y, ws, e, q, t⟩ => by subst e; exact ⟨y, _, rfl, q, RepK.snoc r t⟩
theorem RepK.put {k : Key} {d : D} {v : V} {ds : List (Key × D)} {vs : List (Key × V)} (h : RepK K Γ S ds vs) (r : Rep K Γ S d v) : RepK K Γ S (putD ds k d) (putK vs k v) := by
  unfold putD putK
  rw [h.any k]
  by_cases c : (ds.any fun kv => decide (kv.1 = k)) = true
  · rw [if_pos c, if_pos c]; exact RepK.map r h
  · rw [if_neg c, if_neg c]; exact RepK.snoc r h
theorem RepK.len : ∀ {ds : List (Key × D)} {vs : List (Key × V)}, RepK K Γ S ds vs → vs.length = ds.length
  | [], _, h => by cases (show _ = [] from h); rfl
  | (j, d) :: ds, _, ⟨v, ws, e, r, t⟩ => by subst e; rw [List.length_cons, List.length_cons, RepK.len t]
theorem RepK.merge : ∀ {more : List (Key × D)} {ms : List (Key × V)} {ds : List (Key × D)} {vs : List (Key × V)}, RepK K Γ S more ms → RepK K Γ S ds vs → RepK K Γ S (mergeD ds more) (mergeK vs ms)
  | [], _, _, _, h, q => by cases (show _ = [] from h); exact q
  | (j, x) :: more, _, ds, vs, ⟨y, ws, e, r, t⟩, q => by
    subst e
    show RepK K Γ S (mergeD (putD ds j x) more) (mergeK (putK vs j y) ws)
    exact RepK.merge t (q.put r)
theorem RepT.any (k : List Key) : ∀ {ds : List (List Key × D)} {vs : List (List Key × V)}, RepT K Γ S ds vs → (vs.any fun kv => decide (kv.1 = k)) = ds.any fun kv => decide (kv.1 = k)
  | [], _, h => by cases (show _ = [] from h); rfl
  | (j, d) :: ds, _, ⟨v, ws, e, r, t⟩ => by subst e; rw [List.any_cons, List.any_cons, RepT.any k t]
theorem RepT.map {k : List Key} {d : D} {v : V} (r : Rep K Γ S d v) : ∀ {ds : List (List Key × D)} {vs : List (List Key × V)}, RepT K Γ S ds vs → RepT K Γ S (ds.map fun kv => if kv.1 = k then (kv.1, d) else kv) (vs.map fun kv => if kv.1 = k then (kv.1, v) else kv)
  | [], _, h => by cases (show _ = [] from h); rfl
  | (j, x) :: ds, _, ⟨y, ws, e, q, t⟩ => by
    subst e
    rw [List.map_cons, List.map_cons]
    by_cases c : j = k
    · subst c; rw [if_pos rfl, if_pos rfl]; exact ⟨v, _, rfl, r, RepT.map r t⟩
    · rw [if_neg c, if_neg c]; exact ⟨y, _, rfl, q, RepT.map r t⟩
theorem RepT.snoc {k : List Key} {d : D} {v : V} (r : Rep K Γ S d v) : ∀ {ds : List (List Key × D)} {vs : List (List Key × V)}, RepT K Γ S ds vs → RepT K Γ S (ds ++ [(k, d)]) (vs ++ [(k, v)])
  | [], _, h => by cases (show _ = [] from h); exact ⟨v, [], rfl, r, rfl⟩
  | (j, x) :: ds, _, ⟨y, ws, e, q, t⟩ => by subst e; exact ⟨y, _, rfl, q, RepT.snoc r t⟩
theorem RepT.put {k : List Key} {d : D} {v : V} {ds : List (List Key × D)} {vs : List (List Key × V)} (h : RepT K Γ S ds vs) (r : Rep K Γ S d v) : RepT K Γ S (putD ds k d) (putK vs k v) := by
  unfold putD putK
  rw [h.any k]
  by_cases c : (ds.any fun kv => decide (kv.1 = k)) = true
  · rw [if_pos c, if_pos c]; exact RepT.map r h
  · rw [if_neg c, if_neg c]; exact RepT.snoc r h
theorem RepT.len : ∀ {ds : List (List Key × D)} {vs : List (List Key × V)}, RepT K Γ S ds vs → vs.length = ds.length
  | [], _, h => by cases (show _ = [] from h); rfl
  | (j, d) :: ds, _, ⟨v, ws, e, r, t⟩ => by subst e; rw [List.length_cons, List.length_cons, RepT.len t]
end
/-! ### displays -/
def SndPs (K : PySem.W.Frag) (Γ : CM) (M : List Mode) (trs : List (TE × TE)) (f : Env → Option (List (Key × D))) : Prop :=
  ∀ S0 H0 S H σ δ Q ps, Wd K Γ S0 H0 S H σ M δ → f δ = some ps → (∀ kvs S' H', Ext S H S' H' → RepK K Γ S' ps kvs → Q (kvs.map fun kv => (kV kv.1, kv.2)) H') → tPairs trs σ H Q
structure DPs (Γ : CM) (X : Cx) (M : List Mode) (pos : Pos) (keys : List (Option Expr)) (values : List Expr) (trs : List (TE × TE)) (f : Env → Option (List (Key × D))) : Prop where
  pp : PPs X pos keys values trs
  snd : SndPs X.K Γ M trs f
section
variable {X : Cx} {Γ : CM} {M : List Mode} {k e : Expr} {ks : List (Option Expr)} {es : List Expr} {tk te : TE} {trs : List (TE × TE)} {f g : Ev} {h : Env → Option (List (Key × D))} {m m' : Mode} {pos : Pos}
def pNil : Env → Option (List (Key × D)) := fun _ => some []
def pCons (f g : Ev) (h : Env → Option (List (Key × D))) : Env → Option (List (Key × D)) := fun δ => (f δ).bind fun a => (keyD a).bind fun k => (g δ).bind fun d => (h δ).map ((k, d) :: ·)
theorem dp_nil : DPs Γ X M pos [] [] [] pNil := ⟨pps_nil, fun S0 H0 S H σ δ Q ps w ef k => by cases ef; exact k [] S H (Ext.refl w.sH) rfl⟩
theorem dp_cons (hk : DE Γ X M k tk f m) (hv : DE Γ X M e te g m') (hr : DPs Γ X M pos ks es trs h) (hm : okS m' = true := by rfl) : DPs Γ X M pos (some k :: ks) (e :: es) ((tk, te) :: trs) (pCons f g h) :=
  ⟨pps_cons hk.pe hv.pe hr.pp, fun S0 H0 S H σ δ Q ps w ef q => by
    obtain ⟨a, e1, e2⟩ := bind_some ef
    obtain ⟨j, e3, e4⟩ := bind_some e2
    obtain ⟨d, e5, e6⟩ := bind_some e4
    cases z : h δ with
    | none => rw [z] at e6; cases e6
    | some r =>
      rw [z] at e6; cases e6
      refine hk.snd S0 H0 S H σ δ _ a w e1 fun v S1 H1 x1 r1 _ => ?_
      have rk : Rep X.K Γ S1 a v := by
        cases a with
        | int i => exact r1.int (w.mono x1).h0
        | str x => exact r1.str (w.mono x1).h0
        | _ => cases e3
      have ev := rk.key e3
      subst ev
      refine (hv.snd.sh hm) S0 H0 S1 H1 σ δ _ d (w.mono x1) e5 fun u S2 H2 x2 r2 _ => ?_
      refine hr.snd S0 H0 S2 H2 σ δ _ r ((w.mono x1).mono x2) z fun kvs S3 H3 x3 r3 => ?_
      exact q ((j, u) :: kvs) S3 H3 ((x1.trans x2).trans x3) ⟨u, kvs, rfl, Rep.mono x3.ss r2, r3⟩⟩
def vDict (h : Env → Option (List (Key × D))) : Ev := fun δ => (h δ).bind fun ps => if ps.length ≤ 15 then some (.dicK (mergeD [] ps)) else none
theorem de_dict (hp : DPs Γ X M pos ks es trs h) (hall : ks.all (·.isSome) = true := by rfl) (hl : ks.length = es.length := by rfl) (h0 : ks ≠ [] := by decide) (h15 : ks.length ≤ 15 := by decide) : DE Γ X M (.Dict ks es pos) (tDisp trs) (vDict h) .ow :=
  ⟨pe_disp hp.pp hall hl h0 h15, fun S0 H0 S H σ δ Q d w ef k => by
    obtain ⟨ps, e1, e2⟩ := bind_some ef
    obtain ⟨hl, rfl⟩ := ite_some e2
    intro p hp'
    refine hp.snd S0 H0 S (upd H p (.dK [])) σ δ _ ps (w.mono (Ext.owned w.sH hp' _)) e1 fun kvs S1 H1 x1 r1 => ?_
    have np : S1 p = none := x1.fr p _ upd_same rfl (w.sH.free hp')
    refine ⟨x1.hh _ _ upd_same, kvs, rfl, by rw [r1.len]; exact hl, ?_⟩
    refine k (.ref p) S1 _ ⟨x1.ss, fun b o hb => ?_, fun b o hb => ?_, fun b o hb tt nb => ?_⟩ ⟨p, rfl, fun q hq => by rw [List.mem_singleton.mp hq]; exact np, _, upd_same, r1.merge rfl⟩ fun _ => Fresh.one (h := fun a ea => by cases ea; exact hp')
    · have ne : b ≠ p := fun q => by rw [q, hp'] at hb; cases hb
      rw [upd_ne ne]; exact x1.hh _ _ (by rw [upd_ne ne]; exact hb)
    · have ne : b ≠ p := fun q => by rw [q, np] at hb; cases hb
      rw [upd_ne ne]; exact x1.sh _ _ hb
    · have ne : b ≠ p := fun q => by rw [q, hp'] at hb; cases hb
      exact x1.fr b o (by rw [upd_ne ne]; exact hb) tt nb⟩
theorem de_dicK0 : DE Γ X M (.Dict [] [] pos) tDNewK (vC (.dicK [])) .ow := ⟨pe_dnewK, fun S0 H0 S H σ δ Q d w ef k => by
  cases ef
  intro p hp
  exact k (.ref p) S _ (Ext.owned w.sH hp _) ⟨p, rfl, fun q hq => by rw [List.mem_singleton.mp hq]; exact w.sH.free hp, [], upd_same, rfl⟩ fun _ => Fresh.one (h := fun a ea => by cases ea; exact hp)⟩
theorem de_dicT0 : DE Γ X M (.Dict [] [] pos) tDNewT (vC (.dicT [])) .ow := ⟨pe_dnewT, fun S0 H0 S H σ δ Q d w ef k => by
  cases ef
  intro p hp
  exact k (.ref p) S _ (Ext.owned w.sH hp _) ⟨p, rfl, fun q hq => by rw [List.mem_singleton.mp hq]; exact w.sH.free hp, [], upd_same, rfl⟩ fun _ => Fresh.one (h := fun a ea => by cases ea; exact hp)⟩
end
/-! ### stores -/
def rSetAny : V → V → V → Hp → (Hp → Prop) → Prop := fun o i v H Q => rSetL o i v H Q ∨ ∃ a H', o = .ref a ∧ DPut H a i v H' ∧ Q H'
theorem set_any {X : Cx} (hu : X.A.units + 64 < cLine) : PSet X rSetAny := by
  intro pins s σ H o i v ov iv u Q I ro ri rv h
  rcases h with h | ⟨a, H', rfl, g, q⟩
  · exact set_list pins s σ H o i v ov iv u Q I ro ri rv h
  · cases ro
    exact d_setItem (by omega) I g ri rv fun s4 I4 => ⟨H', I4, q⟩
def opPut (o k d : D) : Option D := match o with
  | .lst ds => match k with
    | .int i => (ixN ds.length i).map fun j => .lst (ds.set j d)
    | _ => none
  | .dicK kvs => (keyD k).bind fun j => if kvs.length < sizeLine then some (.dicK (putD kvs j d)) else none
  | .dicT kvs => (keysD k).bind fun j => if kvs.length < sizeLine then some (.dicT (putD kvs j d)) else none
  | _ => none
def sPut (i : Nat) (fk fv : Ev) : Sv := fun δ => (fv δ).bind fun d => (fk δ).bind fun k => (vVar i δ).bind fun o => (opPut o k d).map fun o' => .nx (δ.set i (some o'))
section
variable {X : Cx} {Γ : CM} {E : WX} {rm : RM} {m m' : Mode} {M : List Mode} {e a b : Expr} {te ta tb : TE} {f g : Ev} {pos apos cpos : Pos} {K : PySem.W.Frag}
theorem map_some {α β : Type} {o : Option α} {k : α → β} {d : β} (h : o.map k = some d) : ∃ a, o = some a ∧ k a = d := by
  cases o with
  | none => cases h
  | some a => exact ⟨a, rfl, Option.some.inj h⟩
theorem ds_put {i : Nat} {x : Str} {p : Pos} (hM : md M i = .ow) (hu : X.A.units + 64 < cLine) (hk : DE Γ X M a ta f m) (he : DE Γ X M e te g m') (hm : okS m = true := by rfl) (hm' : okS m' = true := by rfl) (hN : X.N[i]? = some x := by rfl) (hv : Vis X.env.scope x := by first | exact Or.inl rfl | exact Or.inr (Or.inl rfl) | exact Or.inr (Or.inr rfl)) (hd : (x == ("__debug__" : Str)) = false := by decide)
    (hcd : (x == ("__classdict__" : Str)) = false := by decide)
    (ha : ∀ v, assign (.Subscript (.Name x p) a apos) X.env v = (do
      let ov ← holding [v] (eval (.Name x p) X.env)
      let iv ← holding [v, ov] (eval a X.env)
      standAt apos
      holding [v, ov, iv] (setItem ov iv v)
      release [v, ov, iv] []) := by intro _; rfl)
    (hs : swapsWithSole [.Subscript (.Name x p) a apos] e pos.line X.env = pure false := by rfl) (hw : swappedStores [.Subscript (.Name x p) a apos] e X.env = pure none := by rfl)
    (h1 : (assignEach [.Subscript (.Name x p) a apos] X.env).map (·.2) = [assign (.Subscript (.Name x p) a apos) X.env] := by rfl) :
    DS Γ X E rm M (.Assign [.Subscript (.Name x p) a apos] e pos) (tAsg te (gSub (tVar i) ta rSetAny)) (sPut i f g) M [] :=
  ⟨ps_asg he.pe (pg_sub (pe_var hN hv hd hcd) hk.pe (set_any hu) ha) hs hw h1, fun S0 H0 S H σ δ Dn o w ef k => by
    obtain ⟨d, e1, e2⟩ := bind_some ef
    obtain ⟨kd, e3, e4⟩ := bind_some e2
    obtain ⟨l, e5, e6⟩ := bind_some e4
    obtain ⟨l', e7, rfl⟩ := map_some e6
    refine (he.snd.sh hm') S0 H0 S H σ δ _ d w e1 fun v S1 H1 x1 r1 _ => ?_
    have w1 := w.mono x1
    have hl := vVar_some e5
    obtain ⟨p', hp, hS, top⟩ := w1.owned hM hl
    refine ⟨_, hp, ?_⟩
    refine (hk.snd.sh hm) S0 H0 S1 H1 σ δ _ kd w1 e3 fun u S2 H2 x2 r2 _ => ?_
    have w2 := w1.mono x2
    have top2 := top.mono x2.ss x2.hh
    have r1 := Rep.mono x2.ss r1
    have ss : Same S S2 := x1.ss.trans x2.ss
    cases l with
    | lst ds =>
      obtain ⟨vs, hH, hz, rl⟩ := top2
      cases kd with
      | int j =>
        obtain ⟨q, e8, rfl⟩ := map_some e7
        cases (show u = .int j from r2)
        exact .inl ⟨p', vs, j, q, rfl, rfl, hH, by rw [rl.length]; exact e8, k S2 _ σ ss (w2.write hM hl hp ⟨_, upd_same, by rw [List.length_set]; exact hz, rl.set r1 q⟩) Fr.refl⟩
      | _ => cases e7
    | dicK kvs =>
      obtain ⟨vs, hH, rl⟩ := top2
      obtain ⟨j, e8, e9⟩ := bind_some e7
      obtain ⟨hz, rfl⟩ := ite_some e9
      rw [r2.key e8]
      exact .inr ⟨p', _, rfl, DPut.k hH (by rw [rl.len]; exact hz), k S2 _ σ ss (w2.write hM hl hp ⟨_, upd_same, rl.put r1⟩) Fr.refl⟩
    | dicT kvs =>
      obtain ⟨vs, hH, rl⟩ := top2
      obtain ⟨j, e8, e9⟩ := bind_some e7
      obtain ⟨hz, rfl⟩ := ite_some e9
      obtain ⟨b, rfl, hb⟩ := r2.keys e8
      exact .inr ⟨p', _, rfl, DPut.t hH (w2.sH _ _ hb) (by rw [rl.len]; exact hz), k S2 _ σ ss (w2.write hM hl hp ⟨_, upd_same, rl.put r1⟩) Fr.refl⟩
    | _ => cases e7⟩
end
end Dl
/-! sorted(set(xs)) of a list of ints; sorted(xs). -/
namespace Dl
open PySem L2 PySem.Spec PyProof.Rows
abbrev setObj (w : World) : Obj := { cls := .type "set", dict := none, data := .set #[] 0 (.fresh 0 0 (!w.params.followText "set-order")) }
section
variable {P : Program} {w : World} {A : Around} {E : Value → Shared → Prop} {s : Shared}
set_option maxHeartbeats 3200000 in
/-- set(xs), xs a list of ints: a set that can be walked -/
theorem set_of_ints {l : Addr} {items : Array Value} (ns : List Int) {Q : Value → Shared → Prop} (hh : A.handled = none) (hl : s.heap.IsList l items) (hit : IntsAre items.toList ns) (hb : ns.length + 1 < scanBound)
    (h : ∀ (h' : Heap) (tk c : Nat), SetR w h' s.heap.objs.size (fun j => decide (j ∈ ns)) c → c ≤ ns.length → (∀ b o, s.heap.get? b = some o → h'.get? b = some o) → Q (.ref s.heap.objs.size) { s with heap := h', toks := tk }) :
    wpAny (model P w) A (call (.type "set") [.ref l]) Q E s := by
  have sz : items.size = ns.length := by
    rw [← Array.length_toList]
    exact IntsAre.length hit
  obtain ⟨c, tl, hmro⟩ := PySem.F.called_set.mro
  have f1 := PySem.F.called_set.made
  have f2 := PySem.F.called_set.sub
  have f3 := PySem.F.called_set.notType
  have f4 := PySem.F.called_set.canCreate
  have f5 := PySem.F.typeCall_set_1 (.ref l)
  refine wpAny_call (codeAny_of_tree ?_)
  show wpAny _ _ (callAny (.type "set") _) _ _ _
  refine wpAny_pure ⟨Code.quiet_builtin _ (by decide +kernel), codeAny_builtin PySem.F.entry_type_call ?_⟩
  rw [Around.under_plain (weight_type_call_type "set" [.ref l] []) rfl]
  repeat (any_goals (first | assumption | wp_step))
  refine codeAny_mono (code_set_led1 (.ref l) (E := E) (Q₁ := fun o s₁ => o = .ref s.heap.objs.size ∧ s₁ = { s with heap := s.heap.push (setObj w) }) ⟨rfl, rfl⟩) fun r s₁ hr => ?_
  match r, hr with
  | .error e, hr => exact hr
  | .ok (.ret obj), hr =>
    obtain ⟨rfl, rfl⟩ := hr
    have g1 : (s.heap.push (setObj w)).get? s.heap.objs.size = some (setObj w) := Heap.get?_push_size _ rfl
    have g2 : Shared.TypeIs { s with heap := s.heap.push (setObj w) } (.ref s.heap.objs.size) "set" := ⟨_, g1, rfl⟩
    have f6 := PySem.F.called_set.init.lookup
    have f7 := PySem.F.called_set.init.bind (.ref s.heap.objs.size)
    repeat (any_goals (first | assumption | wp_step))
    refine codeAny_mono (codeAny_call_builtin (R := wants (fun r s₂ => r = .none ∧ ∃ h' tk c, s₂ = { s with heap := h', toks := tk } ∧ SetR w h' s.heap.objs.size (fun j => decide (j ∈ ns)) c ∧ c ≤ ns.length ∧
        (∀ b o, s.heap.get? b = some o → h'.get? b = some o)) E) PySem.F.called_set.init.plain PySem.F.entry_set_init (check_set_init_1 g2 ?_)) fun r₂ s₂ hr₂ => ?_
    · obtain ⟨ol, hol, hcl, nl, hdl⟩ := hl
      obtain ⟨ocls, odict, odata, oslots⟩ := ol
      simp only at hcl hdl
      subst hcl hdl
      have hol' : (s.heap.push (setObj w)).get? l = some { cls := .type "list", dict := odict, data := .seq items nl, slots := oslots } := Heap.get?_push_of_some _ hol
      have f8 := PySem.F.sub_list_set
      have f9 := PySem.F.sub_list_frozenset
      have hne : (Value.type "list" == Value.type "dict") = false := by decide
      have hl1 : (s.heap.push (setObj w)).IsList l items := ⟨_, hol', rfl, nl, rfl⟩
      unfold Builtin.«set.__init__» noKeywords Builtin.Frozenset.updateFrom
      generalize hPI : pyIter = PI
      wp_walk
      subst hPI
      refine wpAny_pyIter_list hl1 ?_
      refine wpAny_bind (wpAny_runValue ?_)
      have lS : l < s.heap.objs.size := Heap.lt_size hol
      have hh3 : A.in1.in1.in1.handled = none := by simp [hh]
      have n1 : l ≠ (s.heap.push (setObj w)).objs.size := by rw [Heap.size_push]; exact Nat.ne_of_lt (Nat.lt_succ_of_lt lS)
      have n2 : s.heap.objs.size ∉ [(s.heap.push (setObj w)).objs.size, l] := by
        rw [Heap.size_push]
        simp only [List.mem_cons, List.not_mem_nil, or_false, not_or]
        exact ⟨Nat.ne_of_lt (Nat.lt_succ_self _), Nat.ne_of_gt lS⟩
      have hval : ∀ (i : Nat) (v : Value), items[i]? = some v → ∃ k t, ns[i]? = some k ∧ v = .int k t := fun i v hv => by
        have hi : i < ns.length := by rw [← sz]; exact (Array.getElem?_eq_some_iff.mp hv).1
        obtain ⟨t, e⟩ := IntsAre.int_at hit i v (by rw [Array.getElem?_toList]; exact hv)
        exact ⟨ns[i], t, List.getElem?_eq_getElem hi, by rw [e, List.getD_eq_getElem?_getD, List.getElem?_eq_getElem hi] <;> rfl⟩
      refine set_update_ints ((Walks.list hh3 _ l n1 items).toS) s.heap.objs.size n2 ns sz hb hval (items.size - 0) 0 _ (by omega) (Nat.zero_le _) ⟨⟨_, Heap.get?_push_size _ rfl, rfl, rfl⟩, (hl1.push _)⟩ ?a0 ?aR
      case a0 => exact ⟨0, Nat.le_refl 0, setR_new_at (Heap.get?_push_of_some _ g1)⟩
      case aR =>
        intro s' c' hm hc' hS'
        obtain ⟨h', g', d', tk', os'⟩ := s'
        have eg : g' = s.gens := hm.gens
        have ed : d' = s.drawn := hm.drawn
        have eo : os' = s.os := hm.os
        subst eg ed eo
        show wpAny _ _ _ _ _ _
        refine wpAny_pure ?_
        show wpAny _ _ (ret Value.none) _ _ _
        refine wpAny_pure ⟨rfl, h', tk', c', rfl, hS', by omega, fun b o e => ?_⟩
        have hb0 := Heap.lt_size e
        refine hm.heap b o ?_ (Heap.get?_push_of_some _ (Heap.get?_push_of_some _ e))
        simp only [List.mem_cons, List.not_mem_nil, or_false, not_or]
        refine ⟨Nat.ne_of_lt hb0, ?_⟩
        rw [Heap.size_push]
        exact Nat.ne_of_lt (Nat.lt_succ_of_lt hb0)
    · match r₂, hr₂ with
      | .error e, hr₂ => exact hr₂
      | .ok (.ret r), hr₂ =>
        obtain ⟨rfl, h', tk, c', rfl, hS', hc', hk'⟩ := hr₂
        repeat (any_goals (first | assumption | wp_step))
        exact h _ _ _ hS' hc' hk'
      | .ok .next, hr₂ => exact hr₂.elim
      | .ok .brk, hr₂ => exact hr₂.elim
      | .ok .cont, hr₂ => exact hr₂.elim
  | .ok .next, hr => exact hr.elim
  | .ok .brk, hr => exact hr.elim
  | .ok .cont, hr => exact hr.elim
end

/-! ### sorted(set(xs)) -/
theorem RepL.of_ints {K : PySem.W.Frag} {Γ : CM} {S : Hp} : ∀ ns : List Int, RepL K Γ S (ns.map D.int) (ns.map V.int)
  | [] => rfl
  | n :: ns => ⟨.int n, _, rfl, rfl, RepL.of_ints ns⟩
def insU (x : Int) : List Int → List Int
  | [] => [x]
  | y :: l => if x < y then x :: y :: l else if x = y then y :: l else y :: insU x l
/-- the numbers of a list, rising, each once -/
def setSort (ns : List Int) : List Int := ns.foldr insU []
theorem mem_insU {x k : Int} : ∀ {l : List Int}, k ∈ insU x l ↔ k = x ∨ k ∈ l
  | [] => by simp [insU]
  | y :: l => by
    unfold insU
    split
    · simp
    · split
      · rename_i h; subst h; simp
      · rw [List.mem_cons, mem_insU (l := l), List.mem_cons]
        constructor
        · rintro (h | h | h)
          · exact .inr (.inl h)
          · exact .inl h
          · exact .inr (.inr h)
        · rintro (h | h | h)
          · exact .inr (.inl h)
          · exact .inl h
          · exact .inr (.inr h)
theorem insU_ris {x : Int} : ∀ {l : List Int}, l.Pairwise (· < ·) → (insU x l).Pairwise (· < ·)
  | [], _ => by simp [insU]
  | y :: l, h => by
    obtain ⟨h1, h2⟩ := List.pairwise_cons.mp h
    unfold insU
    split
    · rename_i c
      refine List.pairwise_cons.mpr ⟨fun z hz => ?_, h⟩
      rcases List.mem_cons.mp hz with e | hz
      · omega
      · have := h1 z hz; omega
    · split
      · exact h
      · rename_i c d
        refine List.pairwise_cons.mpr ⟨fun z hz => ?_, insU_ris h2⟩
        rcases mem_insU.mp hz with e | hz
        · omega
        · exact h1 z hz
theorem setSort_mem {k : Int} : ∀ {ns : List Int}, k ∈ setSort ns ↔ k ∈ ns
  | [] => Iff.rfl
  | n :: ns => by
    show k ∈ insU n (setSort ns) ↔ _
    rw [mem_insU, setSort_mem (ns := ns), List.mem_cons]
theorem setSort_ris : ∀ ns : List Int, (setSort ns).Pairwise (· < ·)
  | [] => .nil
  | n :: ns => insU_ris (setSort_ris ns)
theorem ris_eq : ∀ {l m : List Int}, l.Pairwise (· < ·) → m.Pairwise (· < ·) → (∀ k, k ∈ l ↔ k ∈ m) → l = m
  | [], [], _, _, _ => rfl
  | [], y :: m, _, _, h => absurd ((h y).mpr List.mem_cons_self) (by simp)
  | x :: l, [], _, _, h => absurd ((h x).mp List.mem_cons_self) (by simp)
  | x :: l, y :: m, hl, hm, h => by
    obtain ⟨l1, l2⟩ := List.pairwise_cons.mp hl
    obtain ⟨m1, m2⟩ := List.pairwise_cons.mp hm
    have e : x = y := by
      have a := (h x).mp List.mem_cons_self
      have b := (h y).mpr List.mem_cons_self
      rcases List.mem_cons.mp a with a | a
      · exact a
      · rcases List.mem_cons.mp b with b | b
        · exact b.symm
        · have := m1 x a; have := l1 y b; omega
    subst e
    rw [ris_eq l2 m2 fun k => ?_]
    constructor
    · intro hk
      rcases List.mem_cons.mp ((h k).mp (List.mem_cons_of_mem _ hk)) with e | q
      · have := l1 k hk; omega
      · exact q
    · intro hk
      rcases List.mem_cons.mp ((h k).mpr (List.mem_cons_of_mem _ hk)) with e | q
      · have := m1 k hk; omega
      · exact q
theorem setSort_eq {l ns : List Int} (r : l.Pairwise (· < ·)) (h : ∀ k, k ∈ l ↔ k ∈ ns) : setSort ns = l :=
  ris_eq (setSort_ris ns) r fun k => by rw [setSort_mem, h]
section
variable {X : Cx} {Γ : CM} {M : List Mode} {a : Expr} {ta : TE} {f : Ev} {m : Mode}
def tSortSet (K : PySem.W.Frag) (ta : TE) : TE := fun σ H Q => ta σ H fun x H1 => ∃ (l : Addr) (ns : List Int), x = .ref l ∧ SqL K H1 l (ns.map V.int) ∧ ns.length < 64 ∧
  ∀ (b : Addr) (o : HO) (p : Addr), H1 b = none → upd H1 b o p = none → Q (.ref p) (upd (upd H1 b o) p (.lst ((setSort ns).map V.int)))
theorem pe_sortSet {p p2 q pos : Pos} (hc : X.calm = true) (hg : Gl X "sorted") (hm : X.mg "sorted" = none) (hg2 : Gl X "set") (hm2 : X.mg "set" = none) (ha : PE X a ta)
    (na : starEach [a] X.env = (false, eval a X.env) :: starEach [] X.env := by rfl) : PE X (.Call (.Name "sorted" p) [.Call (.Name "set" p2) [a] [] q] [] pos) (tSortSet X.K ta) := by
  refine ⟨fun pins s σ H Q I h => ?_⟩
  refine PyProof.Rows.Call_ (ld_blt I hg hm PyProof.Rows.boot_sorted ?_)
  refine PyProof.Rows.callWith_builtin1 (PyProof.Rows.args_cons ?_ rfl) rfl rfl
  refine PyProof.Rows.Call_ (ld_blt I hg2 hm2 PyProof.Rows.boot_set ?_)
  refine PyProof.Rows.callWith_type1 (PyProof.Rows.args_cons (thn (ha.run pins s σ H _ I h) fun v s1 ⟨x, H1, I1, r1, q1⟩ => PyProof.Rows.args_nil ?_) na) na rfl
  obtain ⟨l, ns, rfl, hq, h64, q1⟩ := q1
  cases r1
  obtain ⟨its, r, pl, hz⟩ := I1.list hq
  refine set_of_ints ns (I1.ok.hd hc) pl.isList (by simpa using r.ints) (by unfold scanBound; omega) fun h' tk c hS hcl hk => ?_
  have I2 : Inv X pins σ (upd H1 s1.heap.objs.size (SetO X.w s1.heap.objs.size (fun j => decide (j ∈ ns)) c)) { s1 with heap := h', toks := tk } := I1.laid (t' := tk) hk (Nat.le_refl _) (setO_new hS)
  refine PyProof.Rows.args_nil ?_
  refine cr_sortedSet hc pins _ σ _ [.ref s1.heap.objs.size] _ Q I2 (.cons rfl .nil) ⟨_, _, c, rfl, upd_same, by omega, fun ms p ris mem len hp => ?_⟩
  have e : ms = setSort ns := (setSort_eq ris fun k => by rw [mem k, decide_eq_true_iff]).symm
  subst e
  exact q1 _ _ p (I1.hok.fresh (Nat.le_refl _)) hp
def vSortSet (f : Ev) : Ev := fun δ => (f δ).bind fun d => match d with
  | .lst ds => (intsOf ds).bind fun ns => if ns.length < 64 then some (.lst ((setSort ns).map D.int)) else none
  | _ => none
theorem insU_len (x : Int) : ∀ l : List Int, (insU x l).length ≤ l.length + 1
  | [] => by simp [insU]
  | y :: l => by
    have := insU_len x l
    unfold insU
    split
    · simp
    · split
      · simp
      · rw [List.length_cons, List.length_cons]; omega
theorem setSort_len : ∀ ns : List Int, (setSort ns).length ≤ ns.length
  | [] => Nat.le_refl _
  | n :: ns => by
    have a := insU_len n (setSort ns)
    have b := setSort_len ns
    show (insU n (setSort ns)).length ≤ ns.length + 1
    omega
theorem de_sortSet {p p2 q pos : Pos} (K : PySem.W.Frag) (hc : X.calm = true) (hm : X.mg "sorted" = none) (hm2 : X.mg "set" = none) (ha : DE Γ X M a ta f m) (hg : Gl X "sorted" := by rfl) (hg2 : Gl X "set" := by rfl)
    (na : starEach [a] X.env = (false, eval a X.env) :: starEach [] X.env := by rfl) (hK : X.K = K := by rfl) : DE Γ X M (.Call (.Name "sorted" p) [.Call (.Name "set" p2) [a] [] q] [] pos) (tSortSet K ta) (vSortSet f) .ow := by
  subst hK
  exact ⟨pe_sortSet hc hg hm hg2 hm2 ha.pe na, fun S0 H0 S H σ δ Q d w ef k => by
    obtain ⟨l, e1, e2⟩ := bind_some ef
    cases l with
    | lst ds =>
      obtain ⟨ns, e3, e4⟩ := bind_some e2
      obtain ⟨h64, rfl⟩ := ite_some e4
      refine ha.snd S0 H0 S H σ δ _ _ w e1 fun v S1 H1 x1 r1 _ => ?_
      obtain ⟨p, vs, ev, hp, hl, rl⟩ := r1.lst x1.sh (w.mono x1).h0
      refine ⟨p, ns, ev, by rw [← rl.intsOf e3]; exact SqL.of hp, h64, fun b o p2 hb hp2 => ?_⟩
      have xb := Ext.owned x1.sh hb o
      exact (k.ext (x1.trans xb)).newL rfl xb.sh (by rw [List.length_map]; have := setSort_len ns; exact le1000 (by omega)) (RepL.of_ints _) hp2
    | _ => cases e2⟩
end
end Dl
/-! classes: fields stored in __init__, made instances, methods; wipes; what is never reached. -/
namespace Dl
open PySem L2
/-! ### wipes; what is never reached -/
section
variable {X : Cx} {Γ : CM} {E : WX} {rm : RM} {M M1 M2 : List Mode} {st : Stmt} {rest : List Stmt} {t u : TS} {s s' : Sv} {K : PySem.W.Frag}
theorem Wd.forget {S0 H0 S H : Hp} {σ : St} {δ : Env} (w : Wd K Γ S0 H0 S H σ M δ) (vs : List Nat) : Wd K Γ S0 H0 S H σ M (wipeE δ vs) :=
  ⟨w.ext, by rw [wipeE_len, w.len], fun i d h => w.slot i d (wipeE_some h).1, fun i d a h m s => w.own i d a (wipeE_some h).1 m s,
   fun i j di dj a b p h1 h2 m1 m2 s1 s2 => w.uniq i j di dj a b p (wipeE_some h1).1 (wipeE_some h2).1 m1 m2 s1 s2, w.nord⟩
def sWip (vs : List Nat) (s : Sv) : Sv := fun δ => s (wipeE δ vs)
theorem dss_wipe {ws : List Nat} (vs : List Nat) (h : DSs Γ X E rm M rest u s' M2 ws) : DSs Γ X E rm M rest u (sWip vs s') M2 ws := ⟨h.pss, fun S0 H0 S H σ δ Dn o w ef k => h.snd S0 H0 S H σ _ Dn o (w.forget vs) ef k⟩
def sNo : Sv := fun _ => none
theorem ds_never : DS Γ X E rm M st (fun _ _ _ => False) sNo M1 [] := ⟨⟨fun _ _ _ _ _ _ h => h.elim⟩, fun _ _ _ _ _ _ _ _ _ ef _ => by cases ef⟩
def vNo : Ev := fun _ => none
theorem de_never {e : Expr} {m : Mode} : DE Γ X M e (fun _ _ _ => False) vNo m := ⟨⟨fun _ _ _ _ _ _ h => h.elim⟩, fun _ _ _ _ _ _ _ _ _ ef _ => by cases ef⟩
end
/-! ### a walk over a list of one's own that stays -/
/-- a block leaves the datum in slot i -/
def Kp (i : Nat) (s : Sv) : Prop := ∀ δ δ1, s δ = some (.nx δ1) → δ1[i]? = δ[i]?
def KpG (i : Nat) (h : Hv) : Prop := ∀ d δ δ1, h d δ = some δ1 → δ1[i]? = δ[i]?
theorem kpg_name {i j : Nat} (n : j ≠ i) : KpG i (hName j) := fun d δ δ1 h => by cases h; exact List.getElem?_set_ne n
def KpGs (i : Nat) (h : List D → Env → Option Env) : Prop := ∀ d δ δ1, h d δ = some δ1 → δ1[i]? = δ[i]?
theorem kpgs_nil {i : Nat} : KpGs i hNil := fun d δ δ1 h => by cases d <;> cases h; rfl
theorem kpgs_cons {i : Nat} {h : Hv} {hs : List D → Env → Option Env} (a : KpG i h) (b : KpGs i hs) : KpGs i (hCons h hs) := fun d δ δ1 q => by
  cases d with
  | nil => cases q
  | cons d ds =>
    obtain ⟨δ2, e1, e2⟩ := bind_some q
    exact (b _ _ _ e2).trans (a _ _ _ e1)
theorem kpg_tup {i n : Nat} {hs : List D → Env → Option Env} (b : KpGs i hs) : KpG i (hTup n hs) := fun d δ δ1 q => by
  cases d with
  | tup ds =>
    have q : (if ds.length = n then hs ds δ else none) = some δ1 := q
    split at q
    · exact b _ _ _ q
    · cases q
  | _ => cases q
section
variable {i j : Nat} {s s' : Sv} {f g : Ev} {p : Env → Option Bool} {h : Hv} {it : Env → Option (List D)}
theorem kp_next : Kp i sNext := fun δ δ1 q => by cases q; rfl
theorem kp_ret : Kp i (sRet f) := fun δ δ1 q => by
  unfold sRet at q
  cases z : f δ with
  | none => rw [z] at q; cases q
  | some d => rw [z] at q; cases q
theorem kp_retN : Kp i sRetN := fun δ δ1 q => by cases q
theorem kp_no : Kp i sNo := fun δ δ1 q => by cases q
theorem kp_set (n : j ≠ i) : Kp i (sSet j f) := fun δ δ1 q => by
  unfold sSet at q
  cases z : f δ with
  | none => rw [z] at q; cases q
  | some d => rw [z] at q; cases q; exact List.getElem?_set_ne n
theorem kp_asg (n : KpG i h) : Kp i (sAsg f h) := fun δ δ1 q => by
  obtain ⟨d, e1, e2⟩ := bind_some q
  cases z : h d δ with
  | none => rw [z] at e2; cases e2
  | some d => rw [z] at e2; cases e2; exact n _ _ _ z
theorem kp_expr : Kp i (sExpr f) := fun δ δ1 q => by
  unfold sExpr at q
  cases z : f δ with
  | none => rw [z] at q; cases q
  | some d => rw [z] at q; cases q; rfl
theorem kp_app (n : j ≠ i) : Kp i (sApp j f) := fun δ δ1 q => by
  obtain ⟨l, e1, e2⟩ := bind_some q
  cases l with
  | lst ds =>
    obtain ⟨d, e3, e4⟩ := bind_some e2
    obtain ⟨_, e5⟩ := ite_some e4
    cases e5
    exact List.getElem?_set_ne n
  | _ => cases e2
theorem kp_ext (n : j ≠ i) : Kp i (sExt j f) := fun δ δ1 q => by
  obtain ⟨l, e1, e2⟩ := bind_some q
  cases l with
  | lst ds =>
    obtain ⟨d, e3, e4⟩ := bind_some e2
    cases d with
    | lst es =>
      obtain ⟨_, e5⟩ := ite_some e4
      cases e5
      exact List.getElem?_set_ne n
    | _ => cases e4
  | _ => cases e2
theorem kp_put (n : j ≠ i) : Kp i (sPut j f g) := fun δ δ1 q => by
  obtain ⟨d, e1, e2⟩ := bind_some q
  obtain ⟨kd, e3, e4⟩ := bind_some e2
  obtain ⟨l, e5, e6⟩ := bind_some e4
  obtain ⟨l', e7, e8⟩ := map_some e6
  cases e8
  exact List.getElem?_set_ne n
theorem kp_seq (a : Kp i s) (b : Kp i s') : Kp i (sSeq s s') := fun δ δ1 q => by
  obtain ⟨o, e1, e2⟩ := bind_some q
  cases o with
  | nx δ2 => exact (b _ _ e2).trans (a _ _ e1)
  | rt d => cases e2
  | ex c fs => cases e2
theorem kp_if (a : Kp i s) (b : Kp i s') : Kp i (sIf p s s') := fun δ δ1 q => by
  obtain ⟨o, e1, e2⟩ := bind_some q
  cases o with
  | true => rw [if_pos rfl] at e2; exact a _ _ e2
  | false => rw [if_neg Bool.false_ne_true] at e2; exact b _ _ e2
theorem wipeE_other {δ : Env} {i : Nat} : ∀ {vs : List Nat}, i ∉ vs → (wipeE δ vs)[i]? = δ[i]?
  | [], _ => rfl
  | v :: vs, h => by
    unfold wipeE
    rw [List.getElem?_set_ne (fun e => h (by rw [e]; exact List.mem_cons_self))]
    exact wipeE_other fun z => h (List.mem_cons_of_mem _ z)
theorem kp_wip {vs : List Nat} (n : i ∉ vs) (a : Kp i s) : Kp i (sWip vs s) := fun δ δ1 q => (a _ _ q).trans (wipeE_other n)
theorem kp_forD (a : KpG i h) (b : Kp i s) : ∀ {ds : List D} {δ δ1 : Env}, forD h s ds δ = some (.nx δ1) → δ1[i]? = δ[i]?
  | [], _, _, q => by cases q; rfl
  | d :: ds, δ, δ1, q => by
    obtain ⟨δ2, e1, e2⟩ := bind_some q
    obtain ⟨o, e3, e4⟩ := bind_some e2
    cases o with
    | nx δ3 => exact (kp_forD a b (ds := ds) e4).trans ((b _ _ e3).trans (a _ _ _ e1))
    | rt d => cases e4
    | ex c fs => cases e4
theorem kp_for (a : KpG i h) (b : Kp i s) : Kp i (sFor it h s) := fun δ δ1 q => by
  obtain ⟨ds, e1, e2⟩ := bind_some q
  exact kp_forD a b e2
theorem kp_whileD (b : Kp i s) : ∀ {n : Nat} {δ δ1 : Env}, whileD p s n δ = some (.nx δ1) → δ1[i]? = δ[i]?
  | 0, _, _, q => by cases q
  | n + 1, δ, δ1, q => by
    obtain ⟨c, e1, e2⟩ := bind_some q
    cases c with
    | true =>
      rw [if_pos rfl] at e2
      obtain ⟨o, e3, e4⟩ := bind_some e2
      cases o with
      | nx δ3 => exact (kp_whileD b (n := n) e4).trans (b _ _ e3)
      | rt d => cases e4
      | ex c fs => cases e4
    | false => rw [if_neg Bool.false_ne_true] at e2; cases e2; rfl
theorem kp_while (b : Kp i s) : Kp i (sWhile p s) := fun δ δ1 q => kp_whileD b q
end
section
variable {X : Cx} {Γ : CM} {E : WX} {rm : RM} {M M1 : List Mode} {tg : Expr} {g : TG} {h : Hv} {ws wt : List Nat} {body : List Stmt} {tb : TS} {s : Sv} {K : PySem.W.Frag} {pos : Pos}
theorem snd_forO {i : Nat} (hM : md M i = .ow) (hg : SndG K Γ M g h M1 ws) (hb : SndS K Γ E rm M1 tb s M wt) (hi : i ∉ ws ++ wt) (kg : KpG i h) (kb : Kp i s) : SndS K Γ E rm M (tFor (iAny K (tVar i)) g tb) (sFor (iAnyF (vVar i)) h s) M (ws ++ wt) := fun S0 H0 S H σ0 δ Dn o w ef k => by
  obtain ⟨ds, e1, e2⟩ := bind_some ef
  obtain ⟨d, e0, e3⟩ := bind_some e1
  have hl := vVar_some e0
  obtain ⟨p, hp, hS, top⟩ := w.owned hM hl
  have ed : d = .lst ds := by
    cases d with
    | lst es => cases e3; rfl
    | _ => first | exact top.elim | cases e3
  subst ed
  obtain ⟨vs, hH, hz, rl⟩ := top
  refine .inl ⟨_, hp, p, rfl, ⟨vs, SqL.of hH⟩, ?_⟩
  refine ⟨fun j m σ H => m = ds.length - j ∧ j ≤ ds.length ∧ ∃ S2 δ2, Wd K Γ S0 H0 S2 H σ M δ2 ∧ Same S S2 ∧ forD h s (ds.drop j) δ2 = some o ∧ Fr (ws ++ wt) σ0 σ ∧ δ2[i]? = some (some (.lst ds)), ⟨_, rfl, Nat.zero_le _, S, δ, w, Same.refl _, e2, Fr.refl, hl⟩, ?_⟩
  rintro j m σ2 H2 ⟨rfl, hi', S2, δ2, w2, s2, e3, f2, d2⟩
  obtain ⟨p2, hp2, hS2, vs2, hH2, hz2, rl2⟩ := w2.owned hM d2
  have ep : p2 = p := by
    have := f2.2 i hi
    rw [hp2, hp] at this
    exact V.ref.inj (Option.some.inj (Option.some.inj this))
  subst ep
  have at_ : ItAt K Γ (Itl K p2) ds S2 H2 := itl_at (SqL.of hH2) rl2 w2.sH
  by_cases hlt : j < ds.length
  · refine .inr ⟨(at_.go j ds[j] (List.getElem?_eq_getElem hlt)).1, fun σ' H' => ∃ S3 δ3, Wd K Γ S0 H0 S3 H' σ' M δ3 ∧ Same S S3 ∧ forD h s (ds.drop (j + 1)) δ3 = some o ∧ Fr (ws ++ wt) σ0 σ' ∧ δ3[i]? = some (some (.lst ds)), fun σ' H' ⟨S3, δ3, w3, s3, e4, f4, d4⟩ => ⟨ds.length - (j + 1), by omega, rfl, hlt, S3, δ3, w3, s3, e4, f4, d4⟩, fun x H3 y => ?_⟩
    obtain ⟨S3, x3, r3⟩ := (at_.go j ds[j] (List.getElem?_eq_getElem hlt)).2 x H3 y
    rw [List.drop_eq_getElem_cons hlt] at e3
    obtain ⟨δ4, e4, e5⟩ := bind_some e3
    obtain ⟨o5, e6, e7⟩ := bind_some e5
    refine hg S0 H0 S3 H3 σ2 δ2 x ds[j] _ δ4 (w2.mono x3) r3 e4 fun σ4 w4 u4 => ?_
    have f4 : Fr (ws ++ wt) σ0 σ4 := f2.same ((fr_wipe u4).up fun j => List.mem_append_left _)
    refine hb S0 H0 S3 H3 σ4 δ4 _ o5 w4 e6 ?_
    cases o5 with
    | nx δ5 => exact fun S5 H5 σ5 s5 w5 f5 => ⟨S5, δ5, w5, (s2.trans x3.ss).trans s5, e7, f4.same (f5.up fun j => List.mem_append_right _), ((kb _ _ e6).trans (kg _ _ _ e4)).trans d2⟩
    | rt d => cases e7; exact fun v S' H' σ' s5 w5 f5 => k v S' H' σ' ((s2.trans x3.ss).trans s5) w5 (f4.same (f5.up fun j => List.mem_append_right _))
    | ex c fs => cases e7; exact fun cls dd S' H' σ' s5 w5 f5 => k cls dd S' H' σ' ((s2.trans x3.ss).trans s5) w5 (f4.same (f5.up fun j => List.mem_append_right _))
  · have e : j = ds.length := by omega
    subst e
    rw [List.drop_length] at e3
    cases e3
    exact .inl ⟨at_.stop, k S2 H2 σ2 s2 w2 f2⟩
theorem ds_forO (K : PySem.W.Frag) {i : Nat} {x : Str} {p : Pos} (hp : PassesOwn (model X.prog X.w) X.A X.env X.xe) (hc : X.calm = true) (hM : md M i = .ow) (hg : DG Γ X M tg g h M1 ws) (hb : DSs Γ X E rm M1 body tb s M wt) (kg : KpG i h) (kb : Kp i s) (hi : i ∉ ws ++ wt := by decide) (hN : X.N[i]? = some x := by rfl) (hv : Vis X.env.scope x := by first | exact Or.inl rfl | exact Or.inr (Or.inl rfl) | exact Or.inr (Or.inr rfl)) (hd : (x == ("__debug__" : Str)) = false := by decide)
    (hcd : (x == ("__classdict__" : Str)) = false := by decide) (hs : ∀ y, foldedSetIterable (.Name x p) X.env y = pure y := by intro _; rfl) (hK : X.K = K := by rfl) : DS Γ X E rm M (.For tg (.Name x p) body [] pos) (tFor (iAny K (tVar i)) g tb) (sFor (iAnyF (vVar i)) h s) M (ws ++ wt) := by
  subst hK
  exact ⟨ps_for hp hc (pi_or (pi_list (pe_var hN hv hd hcd)) (pi_or (pi_tup (pe_var hN hv hd hcd)) (pi_str (pe_var hN hv hd hcd)))) hg.pg hb.pss hs, snd_forO hM hg.snd hb.snd hi kg kb⟩
end
/-! ### self.f = e -/
def putFD (f : Str) (d : D) : List (Str × D) → List (Str × D)
  | [] => [(f, d)]
  | (g, x) :: r => if g = f then (g, d) :: r else (g, x) :: putFD f d r
theorem RepF.put {K : PySem.W.Frag} {Γ : CM} {S : Hp} {f : Str} {d : D} {v : V} (r : Rep K Γ S d v) : ∀ {fs : List (Str × D)} {ws : List (Str × V)}, RepF K Γ S fs ws → RepF K Γ S (putFD f d fs) (putF f v ws)
  | [], ws, h => by
    cases (show ws = [] from h)
    exact ⟨v, [], rfl, r, rfl⟩
  | (g, x) :: fs, _, ⟨y, ws, e, q, t⟩ => by
    subst e
    unfold putFD putF
    by_cases c : g = f
    · rw [if_pos c, if_pos c]; exact ⟨v, ws, rfl, r, t⟩
    · rw [if_neg c, if_neg c]; exact ⟨y, _, rfl, q, RepF.put r t⟩
theorem RepF.len {K : PySem.W.Frag} {Γ : CM} {S : Hp} : ∀ {fs : List (Str × D)} {ws : List (Str × V)}, RepF K Γ S fs ws → ws.length = fs.length
  | [], ws, h => by cases (show ws = [] from h); rfl
  | _ :: fs, _, ⟨y, ws, e, q, t⟩ => by subst e; rw [List.length_cons, List.length_cons, RepF.len t]
def sFldS (i : Nat) (f : Str) (fe : Ev) : Sv := fun δ => (fe δ).bind fun d => (vVar i δ).bind fun o => match o with
  | .slf a c fs => if fs.length < 1000 then some (.nx (δ.set i (some (.slf a c (putFD f d fs))))) else none
  | _ => none
section
variable {X : Cx} {Γ : CM} {E : WX} {rm : RM} {m : Mode} {M : List Mode} {e : Expr} {te : TE} {g : Ev} {pos pos' : Pos} {K : PySem.W.Frag}
theorem ds_fldS (K : PySem.W.Frag) {i : Nat} {x f : Str} {p : Pos} (T : ∀ c, ClsOk K Γ c f) (hM : md M i = .ow) (he : DE Γ X M e te g m) (hm : okS m = true := by rfl) (hN : X.N[i]? = some x := by rfl) (hv : Vis X.env.scope x := by first | exact Or.inl rfl | exact Or.inr (Or.inl rfl) | exact Or.inr (Or.inr rfl)) (hd : (x == ("__debug__" : Str)) = false := by decide)
    (hcd : (x == ("__classdict__" : Str)) = false := by decide) (hs : swapsWith e (some (.Attribute (.Name x p) f pos')) pos.line X.env = pure false := by rfl) (hK : X.K = K := by rfl) :
    DS Γ X E rm M (.Assign [.Attribute (.Name x p) f pos'] e pos) (sFld K (tVar i) te f) (sFldS i f g) M [] := by
  subst hK
  refine ⟨ps_fld (pe_var hN hv hd hcd) he.pe hs, fun S0 H0 S H σ δ Dn o w ef k => ?_⟩
  obtain ⟨d, e1, e2⟩ := bind_some ef
  obtain ⟨l, e3, e4⟩ := bind_some e2
  have hl := vVar_some e3
  cases l with
  | slf a c fs =>
    obtain ⟨hlen, rfl⟩ := ite_some e4
    obtain ⟨p', hp, hS, C, dx, vs, hH, hg, rl, rfl⟩ := w.owned hM hl
    refine (he.snd.sh hm) S0 H0 S H σ δ _ d w e1 fun v S1 H1 x1 r1 _ => ?_
    refine ⟨_, hp, p', C, dx, vs, rfl, x1.hh _ _ hH, ((T c).ok C hg).1, ((T c).ok C hg).2, by rw [rl.len]; exact hlen, ?_⟩
    exact k S1 _ σ x1.ss ((w.mono x1).write hM hl hp ⟨C, dx, _, upd_same, hg, RepF.put r1 (rl.mono x1.ss), rfl⟩) Fr.refl
  | _ => cases e4
end
/-! ### __init__ -/
def isSlf : D → Bool
  | .slf _ _ _ => true
  | _ => false
def denI (c : Str) (n np : Nat) (s : Sv) (a : Addr) : List D → Option D := fun ds => if ds.length + 1 = np ∧ ds.all (fun d => !isSlf d) = true then (s (some (.slf a c []) :: (ds.map some ++ List.replicate (n - np) none))).bind fun o => match o with
  | .nx δ => match (δ[0]? : Option (Option D)) with
    | some (some (D.slf a' c' fs)) => if a' = a ∧ c' = c then some (.ins c fs) else none
    | _ => none
  | _ => none
  else none
/-- an __init__'s promise -/
def spI (K : PySem.W.Frag) (Γ : CM) (c : Str) (pm : List Mode) (den : Addr → List D → Option D) : Sp := fun vs H Q _ =>
  ∃ S a C dx ds vs' fs, vs = .ref a :: vs' ∧ iM Γ c = some C ∧ H a = some (.ins C dx []) ∧ S a = none ∧ Same S H ∧ (∃ H1, Same S H1 ∧ H1 a = none ∧ Same H1 H ∧ ArgMs K Γ S H1 pm ds vs') ∧ den a ds = some (.ins c fs) ∧
    ∀ S' H', Same S S' → (∀ b o, H b = some o → b ≠ a → H' b = some o) → Same S' H' → (∀ b o, H b = some o → isTupO o = false → S b = none → S' b = none) → TopAt K Γ S' H' a (.slf a c fs) → Q .non H'
theorem initM_ok {n : Nat} {pm : List Mode} (hp : pm.all (fun m => m == .sh || m == .bo) = true) (i : Nat) : md (initM n pm) i = .sh ∨ md (initM n pm) i = .bo := by
  unfold md initM
  rw [List.getD_eq_getElem?_getD]
  by_cases hi : i < pm.length
  · rw [List.getElem?_append_left hi, List.getElem?_eq_getElem hi]
    have := List.all_eq_true.mp hp _ (List.getElem_mem hi)
    simpa using this
  · rw [List.getElem?_append_right (by omega)]
    cases q : (List.replicate (n - pm.length) Mode.sh)[i - pm.length]? with
    | none => exact .inl rfl
    | some m =>
      have := List.mem_of_getElem? q
      rw [List.mem_replicate] at this
      exact .inl this.2
theorem Wd.beginI {K : PySem.W.Frag} {Γ : CM} {S H : Hp} {N : List Str} {pm : List Mode} {c : Str} {a C dx : Addr} {ds : List D} {vs : List V} (sh : Same S H) (hg : iM Γ c = some C) (ha : H a = some (.ins C dx [])) (hS : S a = none) (r0 : ArgMs K Γ S (fun b => if b = a then none else H b) pm ds vs) (hp : pm.all (fun m => m == .sh || m == .bo) = true) :
    Wd K Γ S (fun b => if b = a then none else H b) S H (L2.start N (.ref a :: vs)) (.ow :: initM (N.length - 1) pm) (some (.slf a c []) :: (ds.map some ++ List.replicate (N.length - (pm.length + 1)) none)) := by
  have h0 : ∀ b o, (fun b => if b = a then none else H b) b = some o → H b = some o ∧ b ≠ a := fun b o e => by
    by_cases q : b = a
    · simp [q] at e
    · simp only [if_neg q] at e; exact ⟨e, q⟩
  have sh0 : Same S (fun b => if b = a then none else H b) := fun b o e => by
    have q : b ≠ a := fun z => by rw [z, hS] at e; cases e
    simp only [if_neg q]; exact sh b o e
  have w0 := Wd.begin (N := N.tail) sh0 r0 hp
  obtain ⟨l1, l2⟩ := r0.len
  have hN1 : N.tail.length = N.length - 1 := List.length_tail
  have em : initM N.tail.length pm = initM (N.length - 1) pm := by rw [hN1]
  have ee : N.tail.length - pm.length = N.length - (pm.length + 1) := by rw [hN1]; omega
  rw [em] at w0
  rw [ee] at w0
  have es : L2.start N (.ref a :: vs) = some (.ref a) :: L2.start N.tail vs := by
    unfold L2.start
    rw [List.map_cons, List.cons_append, hN1, List.length_cons]
    congr 3
    omega
  rw [es]
  refine ⟨⟨Same.refl _, fun b o e => (h0 b o e).1, sh, fun b o e _ q => q⟩, by rw [List.length_cons, List.length_cons, w0.len], fun i d h => ?_, fun i d b h m s p hp => ?_, fun i j di dj b b' p h1 h2 m1 m2 s1 s2 _ _ => ?_, fun i z => ?_⟩
  · cases i with
    | zero =>
      cases h
      exact ⟨.ref a, rfl, a, rfl, fun p hp => by rw [List.mem_singleton.mp hp]; exact hS, C, dx, [], ha, hg, rfl, rfl⟩
    | succ i =>
      obtain ⟨v, hv, rv⟩ := w0.slot i d h
      refine ⟨v, hv, ?_⟩
      have em2 : md (.ow :: initM (N.length - 1) pm) (i + 1) = md (initM (N.length - 1) pm) i := rfl
      rw [em2]
      exact rv.mono ⟨Same.refl _, fun b o e => (h0 b o e).1, sh, fun b o e _ q => q⟩
  · cases i with
    | zero =>
      cases s
      cases h
      rw [List.mem_singleton.mp hp]
      simp
    | succ i =>
      have m' : md (initM (N.length - 1) pm) i = .ow := m
      rcases initM_ok (n := N.length - 1) ‹_› i with z | z <;> rw [z] at m' <;> cases m'
  · cases i with
    | zero =>
      cases j with
      | zero => rfl
      | succ j =>
        have m2' : md (initM (N.length - 1) pm) j = .ow := m2
        rcases initM_ok (n := N.length - 1) hp j with z | z <;> rw [z] at m2' <;> cases m2'
    | succ i =>
      have m1' : md (initM (N.length - 1) pm) i = .ow := m1
      rcases initM_ok (n := N.length - 1) hp i with z | z <;> rw [z] at m1' <;> cases m1'
  · cases i with
    | zero => cases z
    | succ i => exact w0.nord i z
section
variable {P : Program} {w : World} {K : PySem.W.Frag} {mg : Str → Option Value} {base : Heap} {Γ : CM}
theorem ext_but {S H1 H : Hp} {a : Addr} (q2 : H1 a = none) (q3 : Same H1 H) (sh : Same S H) (hS : S a = none) : Ext S H1 S (fun b => if b = a then none else H b) := by
  refine ⟨Same.refl _, fun b o e => ?_, fun b o e => ?_, fun _ _ _ _ n => n⟩
  · have q : b ≠ a := fun z => by rw [z, q2] at e; cases e
    simp only [if_neg q]; exact q3 b o e
  · have q : b ≠ a := fun z => by rw [z, hS] at e; cases e
    simp only [if_neg q]; exact sh b o e
theorem init_ok {c x qual : Str} {st : Stmt} {f : Addr} {fd : FuncData} {N ps : List Str} {k : Nat} {pm : List Mode} {s : Sv} {M' : List Mode} (F : Fun K x qual st f fd) (S : FnScope N ps (defScope st)) (hl : pm.length + 1 = ps.length) (hp : pm.all (fun m => m == .sh || m == .bo) = true) {M0 : List Mode} (hM : .ow :: initM (N.length - 1) pm = M0) {n np : Nat} (hn : N.length = n) (hnp : ps.length = np) (hM' : md M' 0 = .ow)
    (hbody : ∀ (cdv : Value) (A : Around) (outer : List PySem.Env) (s0 : Shared) (H : Hp) (E : XK), Room k (A.deeper (PyProof.Rows.envOfC qual (defScope st) s0.heap.objs.size f cdv)) →
      ∃ t ws, DSs Γ (cxOf CX0 P w K mg base N qual (defScope st) f cdv A outer s0 H E).nox W0 .sh M0 (defBody st) t s M' ws) : FnOk P w K mg base CX0 (k + 1) f fd ps (spI K Γ c pm (denI c n np s)) := by
  subst hM hn hnp
  refine F.ok S (fun vs H Q E h => ?_) (fun cdv A outer s0 H vs Q E hr h => ?_)
  · obtain ⟨S1, a, C, dx, ds, vs', fs, rfl, _, _, _, _, ra, _⟩ := h
    obtain ⟨_, _, _, _, ra⟩ := ra
    rw [List.length_cons, ra.len.1, hl]
  · obtain ⟨S1, a, C, dx, ds, vs', fs, rfl, hg, ha, hS, sh, ⟨H1, q1, q2, q3, ra⟩, ed, kk⟩ := h
    obtain ⟨t, ws, hb⟩ := hbody cdv A outer s0 H E hr
    refine ⟨t, hb.pss, ?_⟩
    unfold denI at ed
    split at ed
    · rename_i hc
      obtain ⟨o, e1, e2⟩ := bind_some ed
      rw [← hl] at e1
      refine hb.snd S1 _ S1 H _ _ _ o (Wd.beginI sh hg ha hS (ra.mono (ext_but q2 q3 sh hS)) hp) e1 ?_
      cases o with
      | nx δ =>
        intro S2 H2 σ2 s2 w2 _
        have e2 : (match (δ[0]? : Option (Option D)) with | some (some (D.slf a' c' fs')) => if a' = a ∧ c' = c then some (D.ins c fs') else none | _ => none) = some (D.ins c fs) := e2
        split at e2
        · rename_i a' c' fs' hδ
          obtain ⟨⟨ea, ec⟩, e3⟩ := ite_some e2
          cases e3
          subst ea ec
          obtain ⟨b, hb1, hb2, tb⟩ := w2.owned hM' hδ
          have hb2 := hb2 b List.mem_cons_self
          have eb : b = a' := by obtain ⟨_, _, _, _, _, _, e⟩ := tb; exact e
          subst eb
          refine kk S2 H2 s2 (fun c o e q => w2.ext.hh c o ?_) w2.ext.sh (fun c o e t n => ?_) tb
          · simp only [if_neg q]; exact e
          · by_cases q : c = b
            · subst q; exact hb2 _ List.mem_cons_self
            · exact w2.ext.fr c o (by simp only [if_neg q]; exact e) t n
        · cases e2
      | rt d => cases e2
      | ex c fs => cases e2
    · cases ed
end
/-! ### C(..) -/
open Classical in
noncomputable def denM (den : Addr → List D → Option D) : List D → Option D := fun ds => if h : ∃ r, ∀ a, den a ds = some r then some h.choose else none
theorem denM_some {den : Addr → List D → Option D} {ds : List D} {r : D} (h : denM den ds = some r) : ∀ a, den a ds = some r := by
  unfold denM at h
  split at h
  · rename_i q
    cases h
    exact q.choose_spec
  · cases h
theorem denM_of {den : Addr → List D → Option D} {ds : List D} {r : D} (h : ∀ a, den a ds = some r) : denM den ds = some r := by
  have q : ∃ r, ∀ a, den a ds = some r := ⟨r, h⟩
  unfold denM
  rw [dif_pos q]
  have := q.choose_spec 0
  rw [h 0] at this
  exact this.symm
theorem denI_ins {c : Str} {n np : Nat} {s : Sv} {a : Addr} {ds : List D} {r : D} (h : denI c n np s a ds = some r) : ∃ fs, r = .ins c fs := by
  unfold denI at h
  split at h
  · obtain ⟨o, _, e⟩ := bind_some h
    cases o with
    | nx δ =>
      dsimp only at e
      split at e
      · obtain ⟨_, e⟩ := ite_some e
        exact ⟨_, e.symm⟩
      · cases e
    | _ => cases e
  · cases h
section
variable {X : Cx} {Γ : CM} {M : List Mode} {e o : Expr} {es : List Expr} {tr : TA} {fr : Env → Option (List D)} {fo : Ev} {to : TE} {m mo : Mode} {pos : Pos}
theorem de_make {c x : Str} {C f : Addr} {fd : FuncData} {ps : List Str} {k : Nat} {p : Pos} {pm : List Mode} {den : Addr → List D → Option D} (K : PySem.W.Frag) (mk : Mk K C f) (hg : iM Γ c = some C) (F : FnOk X.prog X.w K X.mg X.base CX0 k f fd ps (spI K Γ c pm den)) (hr : Room (k + 1) X.A) (hm : X.mg x = some (.ref C)) (hb : Binds K fd ps [])
    (hi : ∀ a ds r, den a ds = some r → ∃ fs, r = .ins c fs) (ha : DAr Γ X M (e :: es) tr fr pm) (hgl : Gl X x := by rfl) (h2 : (x == ("__debug__" : Str)) = false := by decide) (h3 : starEach (e :: es) X.env = (false, eval e X.env) :: starEach es X.env := by rfl) (h4 : (backTo pos (starEach es X.env)).any (·.1) = false := by rfl) (hK : X.K = K := by rfl) :
    DE Γ X M (.Call (.Name x p) (e :: es) [] pos) (tMake C (spI K Γ c pm den) [] E0 tr) (vC1 (denM den) fr) .sh := by
  subst hK
  refine ⟨pe_make mk F hr hgl hm hb .nil pass0 ha.pa h2 h3 h4, fun S0 H0 S H σ δ Q d w ef k => ?_⟩
  obtain ⟨ds, e1, e2⟩ := bind_some ef
  refine ha.snd S0 H0 S H σ δ _ ds w e1 fun vs S1 H1 x1 r1 => ?_
  intro a dx na ndx ne
  obtain ⟨fs, rfl⟩ := hi a ds d (denM_some e2 a)
  have ext1 : Same H1 (upd (upd H1 dx (.own a)) a (.ins C dx [])) := fun b o e => by rw [upd_ne (ne_of_none e na), upd_ne (ne_of_none e ndx)]; exact e
  have S1a : S1 a = none := Same.none x1.sh na
  show spI X.K Γ c pm den (.ref a :: (vs ++ [])) _ _ E0
  rw [List.append_nil]
  refine ⟨S1, a, C, dx, ds, vs, fs, rfl, hg, upd_same, S1a, x1.sh.trans ext1, ⟨H1, x1.sh, na, ext1, r1⟩, denM_some e2 a, fun S2 H2 s2 hh sh2 fr2 t => ⟨rfl, ?_⟩⟩
  obtain ⟨S3, s3, s4, r3, off⟩ := t.share sh2 (fun p hp => by rw [List.mem_singleton.mp hp]; exact fr2 a _ upd_same rfl S1a)
  obtain ⟨a', C', dx', ws, ev, hg', hS', rf, _⟩ := r3
  cases ev
  have hhh : Same H1 H2 := fun b o e => hh b o (ext1 b o e) (ne_of_none e na)
  refine k (.ref a) S3 H2 ⟨(x1.ss.trans s2).trans s3, x1.hh.trans hhh, s4, fun b o hb tt nb => ?_⟩ ⟨a, C', dx', ws, rfl, hg', hS', rf⟩ fun z => by cases z
  have nba : b ≠ a := ne_of_none (x1.hh _ _ hb) na
  rw [off b (fun z => nba (List.mem_singleton.mp z))]
  exact fr2 b o (ext1 _ _ (x1.hh _ _ hb)) tt (x1.fr b o hb tt nb)
/-! ### o.m(..) -/
def vMeth (c m : Str) (den : List D → Option D) (fo : Ev) (fr : Env → Option (List D)) : Ev := fun δ => (fo δ).bind fun d => match d with
  | .ins c' fs => if c' = c ∧ fs.lookup m = none then (fr δ).bind fun ds => den (.ins c' fs :: ds) else none
  | _ => none
theorem OwnFs.lookN {K : PySem.W.Frag} {Γ : CM} {S H : Hp} {mu : Str → Ow} {x : Str} : ∀ {fs : List (Str × D)} {ws : List (Str × V)}, OwnFs K Γ S H mu fs ws → fs.lookup x = none → ws.lookup x = none
  | [], ws, h, _ => by cases (show ws = [] from h); rfl
  | (n, y) :: fs, _, ⟨v, ws, e, r, t⟩, h => by
    subst e
    rw [List.lookup_cons] at h ⊢
    cases q : x == n with
    | true => rw [q] at h; cases h
    | false => rw [q] at h; exact OwnFs.lookN t h
/-- a receiver's mode, and the self's -/
def leR : Mode → Mode → Bool
  | .sh, .sh => true
  | _, .bo => true
  | _, _ => false
theorem ArgM.of {K : PySem.W.Frag} {Γ : CM} {H0 S H : Hp} {m m' : Mode} {d : D} {v : V} (h : leR m m' = true) (h0 : Same H0 H) (r : RepM K Γ H0 S H m d v) : ArgM K Γ S H m' d v := by
  cases m' with
  | sh => cases m <;> first | exact r | cases h
  | bo => exact r.rd h0
  | _ => cases m <;> cases h
theorem RepF.lookN {K : PySem.W.Frag} {Γ : CM} {S : Hp} {x : Str} : ∀ {fs : List (Str × D)} {ws : List (Str × V)}, RepF K Γ S fs ws → fs.lookup x = none → ws.lookup x = none
  | [], ws, h, _ => by cases (show ws = [] from h); rfl
  | (n, y) :: fs, _, ⟨v, ws, e, r, t⟩, h => by
    subst e
    rw [List.lookup_cons] at h ⊢
    cases q : x == n with
    | true => rw [q] at h; cases h
    | false => rw [q] at h; exact RepF.lookN t h
theorem snd_meth {c mn : Str} {C : Addr} {pm : List Mode} {m1 : Mode} {den : List D → Option D} {tA : TA} {K : PySem.W.Frag} (hg : iM Γ c = some C) (hm : okS m = true) (ho : SndE K Γ M to fo mo) (ha : SndAr K Γ M tA fr pm) (h1 : leR mo m1 = true) :
    SndE K Γ M (tMeth C mn (spD K Γ (m1 :: pm) m den) [] E0 to tA) (vMeth c mn den fo fr) m := fun S0 H0 S H σ δ Q d w ef k => by
  obtain ⟨o, e1, e2⟩ := bind_some ef
  cases o with
  | ins c' fs =>
    have e2 : (if c' = c ∧ fs.lookup mn = none then (fr δ).bind fun ds => den (.ins c' fs :: ds) else none) = some d := e2
    by_cases hc : c' = c ∧ fs.lookup mn = none
    · obtain ⟨ec, hl⟩ := hc
      subst ec
      rw [if_pos ⟨rfl, hl⟩] at e2
      obtain ⟨ds, e3, e4⟩ := bind_some e2
      refine ho S0 H0 S H σ δ _ _ w e1 fun v S1 H1 x1 r1 _ => ?_
      have w1 := w.mono x1
      have hr := (w.mono x1).h0
      have key : ∃ a dx ws, v = .ref a ∧ H1 a = some (.ins C dx ws) ∧ ws.lookup mn = none := by
        obtain ⟨a, C', dx, ws, ev, hg', hS, rf⟩ := r1.ins x1.sh hr
        have eC : C' = C := Option.some.inj (hg'.symm.trans hg)
        subst eC
        rcases rf with ⟨_, rf⟩ | rf
        · exact ⟨a, dx, ws, ev, hS, rf.lookN hl⟩
        · exact ⟨a, dx, ws, ev, hS, rf.lookN hl⟩
      obtain ⟨a, dx, ws, ev, hS, hlw⟩ := key
      refine ⟨a, dx, ws, ev, hS, hlw, ?_⟩
      refine ha S0 H0 S1 H1 σ δ _ ds (w.mono x1) e3 fun vs S2 H2 x2 r2 => ?_
      show spD K Γ (m1 :: pm) m den (v :: (vs ++ [])) H2 Q E0
      rw [List.append_nil]
      refine ⟨S2, .ins c' fs :: ds, d, x2.sh, ⟨_, _, _, _, rfl, rfl, ?_, r2⟩, e4, (k.ext (x1.trans x2)).h0 hm⟩
      exact ArgM.mono x2 (ArgM.of h1 hr r1)
    · rw [if_neg hc] at e2; cases e2
  | _ => cases e2
theorem de_meth {c mn : Str} {C f : Addr} {fd : FuncData} {ps : List Str} {k : Nat} {apos : Pos} {pm : List Mode} {m1 : Mode} {den : List D → Option D} (K : PySem.W.Frag) (cl : Cls K C) (me : Meth K C mn f) (hg : iM Γ c = some C) (F : FnOk X.prog X.w K X.mg X.base CX0 k f fd ps (spD K Γ (m1 :: pm) m den)) (hr : Room k X.A) (hb : Binds K fd ps [])
    (ho : DE Γ X M o to fo mo) (ha : DAr Γ X M (e :: es) tr fr pm) (h1 : leR mo m1 = true := by rfl) (hm : okS m = true := by rfl) {pl : Sem Bool} (h3 : starEach (e :: es) X.env = (false, eval e X.env) :: starEach es X.env := by rfl) (h4 : (backTo pos (starEach es X.env)).any (·.1) = false := by rfl)
    (ht : eval (.Call (.Attribute o mn apos) (e :: es) [] pos) X.env = (do
      let ov ← eval o X.env
      standAt apos.atName
      let (f, first) ← holding [ov] (getMethod ov mn pl)
      callWith pos f first (backTo pos (starEach (e :: es) X.env)) (backToKw pos (keywordEach [] X.env))) := by rfl) (hK : X.K = K := by rfl) :
    DE Γ X M (.Call (.Attribute o mn apos) (e :: es) [] pos) (tMeth C mn (spD K Γ (m1 :: pm) m den) [] E0 to tr) (vMeth c mn den fo fr) m := by
  subst hK
  exact ⟨pe_meth ho.pe cl me F hr hb .nil pass0 ha.pa h3 h4 ht, snd_meth hg hm ho.snd ha.snd h1⟩
theorem da_nil0 {K : PySem.W.Frag} : SndAr K Γ M tNil aNil [] := fun S0 H0 S H σ δ Q ds w ef k => by cases ef; exact k [] S H (Ext.refl w.sH) ⟨rfl, rfl⟩
theorem de_meth0 {c mn : Str} {C f : Addr} {fd : FuncData} {ps : List Str} {k : Nat} {apos : Pos} {m1 : Mode} {den : List D → Option D} (K : PySem.W.Frag) (cl : Cls K C) (me : Meth K C mn f) (hg : iM Γ c = some C) (F : FnOk X.prog X.w K X.mg X.base CX0 k f fd ps (spD K Γ [m1] m den)) (hr : Room k X.A) (hb : Binds K fd ps [])
    (ho : DE Γ X M o to fo mo) (h1 : leR mo m1 = true := by rfl) (hm : okS m = true := by rfl) {pl : Sem Bool}
    (ht : eval (.Call (.Attribute o mn apos) [] [] pos) X.env = (do
      let ov ← eval o X.env
      standAt apos.atName
      let (f, first) ← holding [ov] (getMethod ov mn pl)
      callWith pos f first (backTo pos (starEach [] X.env)) (backToKw pos (keywordEach [] X.env))) := by rfl) (hK : X.K = K := by rfl) :
    DE Γ X M (.Call (.Attribute o mn apos) [] [] pos) (tMeth C mn (spD K Γ [m1] m den) [] E0 to tNil) (vMeth c mn den fo aNil) m := by
  subst hK
  exact ⟨pe_meth0 ho.pe cl me F hr hb .nil pass0 ht, snd_meth hg hm ho.snd da_nil0 h1⟩
end
end Dl
/-! enumerate of a text; enumerate, zip, reversed over data; sorted; len(set(ints)). -/
namespace L2
open PySem PySem.Spec PyProof.Rows
/-- enumerate of a text: each sign in a new pair -/
def ItEs (x : Str) : It :=
  ⟨fun i _ => i < x.cps.size, fun i H v H' => ∃ T c, v = .ref T ∧ H T = none ∧ H' = upd H T (.tup [.int (i : Nat), .str ⟨#[c]⟩]) ∧ x.cps[i]? = some c, fun i _ => i = x.cps.size⟩
theorem draws_str {P : Program} {w : World} {A : Around} (hh : A.handled = none) (it : Addr) (x : Str) (t : Tok) :
    Draws P w A it [it] x.cps.size (fun i v => ∃ c u, x.cps[i]? = some c ∧ v = .str ⟨#[c]⟩ u) (fun i h => h.IsStrIter it (strIterType x) x t i) := by
  unfold strIterType
  split
  · exact Draws.strAscii hh it x t
  · exact Draws.strWide hh it x t
theorem turn_enumS {P : Program} {w : World} {K : PySem.W.Frag} {elts : List Expr} {kk : Nat} {tpos : Pos} (x : Str) (t : Tok) (e it : Addr) :
    Turn P w K (.Tuple elts kk tpos) (ItEs x) [e, it] e (fun i h => (∃ old, IsEnum h e it ((i : Nat) : Int) old) ∧ h.IsStrIter it (strIterType x) x t i ∧ e ≠ it) where
  mem := by simp
  obj := fun i h st b hb => by
    obtain ⟨⟨old, he⟩, ⟨o, ho, hc, hd⟩, _⟩ := st
    have e' : b = e ∨ b = it := by simpa using hb
    rcases e' with z | z
    · rw [z]; exact ⟨_, he, fun v q => nomatch q⟩
    · rw [z]; exact ⟨o, ho, fun v q => by rw [hd] at q; cases q⟩
  keep := fun i h h' st k => let ⟨⟨old, he⟩, ⟨o, ho, r⟩, hne⟩ := st; ⟨⟨old, k e (by simp) _ he⟩, ⟨o, k it (by simp) o ho, r⟩, hne⟩
  item := by
    intro X hP hw hK hc i pins s σ H E I hf st hg
    subst hP hw hK
    obtain ⟨⟨old, he⟩, hit, hne⟩ := st
    have hel : e < s.heap.objs.size := Heap.lt_size he
    have hil : it < s.heap.objs.size := by obtain ⟨_, q, _⟩ := hit; exact Heap.lt_size q
    refine wpAny_pyNext_enum_itemD (draws_str (A := X.A.in1) (I.ok.hd hc) it x t) he hit hg hne (by simpa using hne) fun u h' tk hP ho hit' hT hsz hk => ?_
    obtain ⟨c, u', hcx, rfl⟩ := hP
    refine ⟨_, rfl, wpAny_letOwnedTupleGo_enum (s := { s with heap := h', toks := tk + 1 }) ho fun h'' he' sb => ?_⟩
    have hT2 : h''.get? s.heap.objs.size = some { cls := .type "tuple", data := .seq #[.int i tk, .str ⟨#[c]⟩ u'] } := (sb.2 _ (Nat.ne_of_gt hel)).trans hT
    have new : ObjOk X.prog X.w (upd H s.heap.objs.size (.tup [.int (i : Nat), .str ⟨#[c]⟩])) h'' s.heap.objs.size (.tup [.int (i : Nat), .str ⟨#[c]⟩]) :=
      ⟨by show 2 ≤ sizeLine; decide, [.int i tk, .str ⟨#[c]⟩ u'], .cons ⟨_, rfl⟩ (.cons ⟨_, rfl⟩ .nil), ⟨_, hT2, rfl, _, rfl⟩⟩
    have I1 : Inv X pins σ (upd H s.heap.objs.size (.tup [.int (i : Nat), .str ⟨#[c]⟩])) { s with heap := h'', toks := tk + 1 } :=
      I.turnedNew (ch := [e, it]) (fun b ob hb q => (sb.2 b (fun z => hb (by simp [z]))).trans (hk b ob (fun z => hb (by simp [z])) (fun z => hb (by simp [z])) q)) hf (Nat.le_refl _) new
    refine ⟨.ref s.heap.objs.size, _, I1, rfl, ⟨_, c, rfl, I.hok.fresh (Nat.le_refl _), rfl, hcx⟩, ⟨⟨.str ⟨#[c]⟩ u', ?_⟩, ?_, hne⟩, fun b hb => ?_⟩
    · have e1 : ((i + 1 : Nat) : Int) = (i : Int) + 1 := by omega
      rw [e1]; exact he'
    · obtain ⟨o, ho', r⟩ := hit'
      exact ⟨o, (sb.2 it (Ne.symm hne)).trans ho', r⟩
    · have hb' : b < s.heap.objs.size := by
        have e' : b = e ∨ b = it := by simpa using hb
        rcases e' with z | z
        · rw [z]; exact hel
        · rw [z]; exact hil
      rw [upd_ne (Nat.ne_of_lt hb')]
      exact (hf b hb).1
  done := by
    intro X hP hw hK hc i pins s σ H E I hf st hg
    subst hP hw hK
    obtain ⟨⟨old, he⟩, hit, hne⟩ := st
    obtain ⟨f0, f1, f2, f3, f4, f5⟩ := hf it (by simp)
    have hg : i = x.cps.size := hg
    subst hg
    exact wpAny_pyNext_enum_endD (draws_str (A := X.A.in1) (I.ok.hd hc) it x t) he hit fun h' eb => ⟨rfl, I.turned (t' := s.toks) (fun b o hb q => eb b o hb q) f0 f1 f3 f4 f5⟩
  self := fun A i s Q E st h => let ⟨⟨_, he⟩, _⟩ := st; wpAny_pyIter_enum he h
def iEnumS (ta : TA) : TI := fun σ H R => ta σ H fun vs H1 => ∃ x, vs = [.str x] ∧ R (ItEs x) H1
theorem pi_enumS {X : Cx} {e : Expr} {ta : TA} {p pos tpos : Pos} {elts : List Expr} {kk : Nat} (hg : Gl X "enumerate") (hm : X.mg "enumerate" = none) (ha : PA X [e] ta) (hs : starEach [e] X.env = [(false, eval e X.env)] := by rfl) :
    PI X (.Tuple elts kk tpos) (.Call (.Name "enumerate" p) [e] [] pos) (iEnumS ta) := by
  refine ⟨fun pins s σ H R I h => ?_⟩
  refine Call_ (ld_blt I hg hm boot_enumerate (PyProof.Rows.callWith_type1 (thn (ha.run pos pins s σ H _ I h) fun us s1 ⟨vs, H1, I1, r1, q1⟩ => ?_) hs rfl))
  obtain ⟨x, ex, q⟩ := q1
  subst ex
  cases r1 with
  | cons r rr =>
    cases rr
    obtain ⟨t, rfl⟩ := r
    refine call_enumerate_str fun h' he hit hsz hk => wpAny_pyIter_enum he ?_
    have I2 : Inv X pins σ H1 { s1 with heap := h' } := I1.kept (t' := s1.toks) hk
    refine ⟨s1.heap.objs.size + 1, [s1.heap.objs.size + 1, s1.heap.objs.size], _, _, H1, rfl, I2, turn_enumS x t (s1.heap.objs.size + 1) s1.heap.objs.size, ⟨⟨.none, he⟩, hit, Nat.succ_ne_self _⟩, fun b hb => ?_, q⟩
    have e' : b = s1.heap.objs.size + 1 ∨ b = s1.heap.objs.size := by simpa using hb
    have hle : s1.heap.objs.size ≤ b := by
      rcases e' with z | z
      · rw [z]; exact Nat.le_add_right _ _
      · rw [z]; exact Nat.le_refl _
    exact I1.fpOk hle (I1.hok.fresh hle)
end L2
namespace Dl
open PySem L2
section
variable {X : Cx} {Γ : CM} {M : List Mode} {tg e a b : Expr} {es : List Expr} {ta : TA} {f : Ev} {fr : Env → Option (List D)} {pos : Pos} {K : PySem.W.Frag} {te : TE} {m : Mode}
def enumD (ds : List D) : List D := ds.mapIdx fun i d => .tup [.int (i : Int), d]
def enumSrc : D → Option (List D)
  | .lst ds => some ds
  | .str x => some (signs x)
  | _ => none
def iEnumerateF (fr : Env → Option (List D)) : Env → Option (List D) := fun δ => (fr δ).bind fun ds => match ds with | [d] => (enumSrc d).map enumD | _ => none
theorem enumD_len (ds : List D) : (enumD ds).length = ds.length := by unfold enumD; rw [List.length_mapIdx]
theorem enumD_get {ds : List D} {i : Nat} {d : D} (h : (enumD ds)[i]? = some d) : ∃ x, ds[i]? = some x ∧ d = .tup [.int (i : Int), x] := by
  unfold enumD at h
  rw [List.getElem?_mapIdx] at h
  cases q : ds[i]? with
  | none => rw [q] at h; cases h
  | some x => rw [q] at h; exact ⟨x, rfl, (Option.some.inj h).symm⟩
theorem two_le : 2 ≤ sizeLine := by decide
theorem rep_pair {S H : Hp} {p : Addr} {d1 d2 : D} {v1 v2 : V} (sh : Same S H) (hp : H p = none) (r1 : Rep K Γ S d1 v1) (r2 : Rep K Γ S d2 v2) : ∃ S2, Ext S H S2 (upd H p (.tup [v1, v2])) ∧ Rep K Γ S2 (.tup [d1, d2]) (.ref p) := by
  have x := Ext.shared sh hp (.tup [v1, v2])
  exact ⟨_, x, p, [v1, v2], rfl, upd_same, two_le, v1, [v2], rfl, Rep.mono x.ss r1, RepL.one (Rep.mono x.ss r2)⟩
theorem di_enumerate (K : PySem.W.Frag) {p tpos : Pos} {elts : List Expr} {kk : Nat} (hn : X.mg "enumerate" = none) (ha : DAr Γ X M [a] ta fr [.sh]) (hg : Gl X "enumerate" := by rfl) (hs : starEach [a] X.env = [(false, eval a X.env)] := by rfl) (hK : X.K = K := by rfl) :
    DI Γ X M (.Tuple elts kk tpos) (.Call (.Name "enumerate" p) [a] [] pos) (fun σ H R => iEnum K ta σ H R ∨ iEnumS ta σ H R) (iEnumerateF fr) := by
  subst hK
  exact ⟨pi_or (pi_enum hg hn ha.pa hs) (pi_enumS hg hn ha.pa hs), fun S0 H0 S H σ δ R ds w ef k => by
  obtain ⟨as, e1, e2⟩ := bind_some ef
  match as, e2, e1 with
  | [d], e2, e1 =>
    have e2 : (enumSrc d).map enumD = some ds := e2
    cases d with
    | lst es =>
      cases e2
      refine .inl (ha.snd S0 H0 S H σ δ _ _ w e1 fun vs S1 H1 x1 r1 => ?_)
      obtain ⟨v, vs', ev, r1, r2⟩ := ArgMs.all_sh (ms := [.sh]) rfl r1
      cases (show vs' = [] from r2)
      obtain ⟨q, us, ev2, hq, hl, rl⟩ := r1
      refine ⟨q, us, by rw [ev, ev2], SqL.of (x1.sh _ _ hq), k _ S1 H1 x1 ⟨by rw [enumD_len]; exact hl, fun S2 H2 x2 s2 => ?_⟩⟩
      have hq2 : SqL X.K H2 q us := SqL.of (x2.sh _ _ (s2 _ _ hq))
      have rl2 := rl.mono s2
      refine ⟨fun i d hd => ?_, ⟨us, hq2, by rw [enumD_len, rl.length]; exact Nat.le_refl _⟩⟩
      obtain ⟨x, hx, rfl⟩ := enumD_get hd
      obtain ⟨u, hu, ru⟩ := rl2.get hx
      refine ⟨⟨us, u, hq2, hu⟩, fun y H3 hy => ?_⟩
      obtain ⟨T, z, rfl, hT, rfl, hz⟩ := hy
      have ez : z = u := Option.some.inj ((hz us hq2).symm.trans hu)
      subst ez
      exact rep_pair x2.sh hT rfl ru
    | str x =>
      cases e2
      refine .inr (ha.snd S0 H0 S H σ δ _ _ w e1 fun vs S1 H1 x1 r1 => ?_)
      obtain ⟨v, vs', ev, r1, r2⟩ := ArgMs.all_sh (ms := [.sh]) rfl r1
      cases (show vs' = [] from r2)
      have ln : (signs x).length = x.cps.size := by unfold signs; rw [List.length_map]; simp
      refine ⟨x, by rw [ev, r1.1], k _ S1 H1 x1 ⟨by rw [enumD_len, ln]; exact r1.2, fun S2 H2 x2 s2 => ⟨fun i d hd => ?_, by rw [enumD_len, ln]; rfl⟩⟩⟩
      obtain ⟨y, hy, rfl⟩ := enumD_get hd
      have hi : i < x.cps.size := by rw [← ln]; exact (List.getElem?_eq_some_iff.mp hy).1
      refine ⟨hi, fun z H3 hz => ?_⟩
      obtain ⟨T, c, rfl, hT, rfl, hc⟩ := hz
      have ey : y = .str ⟨#[c]⟩ := by
        unfold signs at hy
        rw [List.getElem?_map] at hy
        have : x.cps.toList[i]? = some c := by simpa using hc
        rw [this] at hy
        exact (Option.some.inj hy).symm
      subst ey
      exact rep_pair x2.sh hT rfl ⟨rfl, one_le⟩
    | _ => cases e2⟩
/-! reversed(list) -/
def iReversedF (fr : Env → Option (List D)) : Env → Option (List D) := fun δ => (fr δ).bind fun ds => match ds with | [.lst xs] => some xs.reverse | _ => none
/-! zip(list, list) -/
def iZipF (fr : Env → Option (List D)) : Env → Option (List D) := fun δ => (fr δ).bind fun ds => match ds with | [.lst xs, .lst ys] => some ((xs.zip ys).map fun p => .tup [p.1, p.2]) | _ => none
theorem di_zip (K : PySem.W.Frag) {p tpos : Pos} {elts : List Expr} {kk : Nat} (hn : X.mg "zip" = none) (ha : DAr Γ X M [a, b] ta fr [.sh, .sh]) (hg : Gl X "zip" := by rfl) (hs : starEach [a, b] X.env = (false, eval a X.env) :: starEach [b] X.env := by rfl) (hpl : (backTo pos (starEach [b] X.env)).any (·.1) = false := by rfl) (hK : X.K = K := by rfl) :
    DI Γ X M (.Tuple elts kk tpos) (.Call (.Name "zip" p) [a, b] [] pos) (RZ.iZipA K ta) (iZipF fr) := by
  subst hK
  exact ⟨RZ.pi_zipA hg hn ha.pa hs hpl, fun S0 H0 S H σ δ R ds w ef k => by
  obtain ⟨as, e1, e2⟩ := bind_some ef
  match as, e2, e1 with
  | [.lst xs, .lst ys], e2, e1 =>
    cases e2
    refine ha.snd S0 H0 S H σ δ _ _ w e1 fun vs S1 H1 x1 r1 => ?_
    obtain ⟨v, vs', ev, r1, r2⟩ := ArgMs.all_sh (ms := [.sh, .sh]) rfl r1
    obtain ⟨v2, vs2, ev2, r2, r3⟩ := r2
    cases (show vs2 = [] from r3)
    obtain ⟨q1, us, eu, hq1, hl1, rl1⟩ := r1
    obtain ⟨q2, ws, ew, hq2, hl2, rl2⟩ := r2
    have ln : ((xs.zip ys).map fun p => D.tup [p.1, p.2]).length = min xs.length ys.length := by rw [List.length_map, List.length_zip]
    refine ⟨q1, q2, us, ws, by rw [ev, ev2, eu, ew], .inl ⟨SqL.of (x1.sh _ _ hq1), SqL.of (x1.sh _ _ hq2), k _ S1 H1 x1 ⟨by rw [ln]; omega, fun S2 H2 x2 s2 => ?_⟩⟩⟩
    have h1 : SqL X.K H2 q1 us := SqL.of (x2.sh _ _ (s2 _ _ hq1))
    have h2 : SqL X.K H2 q2 ws := SqL.of (x2.sh _ _ (s2 _ _ hq2))
    have m1 := rl1.mono s2
    have m2 := rl2.mono s2
    refine ⟨fun i d hd => ?_, ⟨us, ws, h1, h2, by rw [ln, rl1.length, rl2.length]; omega⟩⟩
    rw [List.getElem?_map] at hd
    cases qz : (xs.zip ys)[i]? with
    | none => rw [qz] at hd; cases hd
    | some pr =>
      rw [qz] at hd
      cases hd
      obtain ⟨hx, hy⟩ := List.getElem?_zip_eq_some.mp qz
      obtain ⟨u, hu, ru⟩ := m1.get hx
      obtain ⟨z, hz, rz⟩ := m2.get hy
      refine ⟨⟨us, ws, u, z, h1, h2, hu, hz⟩, fun y H3 hy3 => ?_⟩
      obtain ⟨T, g1, g2, rfl, hT, rfl, hg1, hg2⟩ := hy3
      have e1 : g1 = u := Option.some.inj ((hg1 us h1).symm.trans hu)
      have e2 : g2 = z := Option.some.inj ((hg2 ws h2).symm.trans hz)
      subst e1 e2
      exact rep_pair x2.sh hT ru rz⟩
end
/-! ### sorted -/
def sortI (ns : List Int) : List Int := ns.mergeSort (fun a b => decide (a ≤ b))
def opSorted : List D → Option D
  | [.lst ds] => (intsOf ds).map fun ns => .lst ((sortI ns).map D.int)
  | _ => none
theorem sortI_perm (ns : List Int) : (sortI ns).Perm ns := List.mergeSort_perm ns _
theorem sortI_le (ns : List Int) : (sortI ns).Pairwise (· ≤ ·) := by
  have := List.pairwise_mergeSort (le := fun (a b : Int) => decide (a ≤ b)) (fun a b c h1 h2 => by simp at *; omega) (fun a b => by simp; omega) ns
  exact this.imp fun h => by simpa using h
theorem perm_le_eq {a b : List Int} (h : a.Perm b) (p : a.Pairwise (· ≤ ·)) (q : b.Pairwise (· ≤ ·)) : a = b := h.eq_of_pairwise (fun x y _ _ h1 h2 => by omega) p q
section
variable {X : Cx} {Γ : CM}
theorem cd_sorted {u : Prop} (hu : u) : CD Γ X (.builtin "sorted") (rSortedI X.K) opSorted [.bo] .ow := ⟨cr_sortedI, fun S H ds vs d Q sh r e k => by
  match ds, e, r with
  | [.lst es], e, r =>
    obtain ⟨v, rfl, r1⟩ := ArgMs.get1 r
    obtain ⟨ns, e1, rfl⟩ := map_some (show (intsOf es).map (fun ns => D.lst ((sortI ns).map D.int)) = some d from e)
    obtain ⟨p, ws, ev, hp, hl, rl⟩ := r1.lst sh (Same.refl _)
    have ew := rl.intsOf e1
    refine ⟨p, ns, by rw [ev], by rw [← ew]; exact SqL.of hp, fun ns' q hperm hle hq => ?_⟩
    have es' : ns' = sortI ns := perm_le_eq (hperm.trans (sortI_perm ns).symm) hle (sortI_le ns)
    subst es'
    have l1 : ns.length = es.length := by have := rl.length; rw [ew, List.length_map] at this; exact this
    exact k.newL rfl sh (by rw [List.length_map, (sortI_perm ns).length_eq, l1]; exact hl) (RepL.ints _) hq⟩
end
end Dl
/-! len(set(list)): ints and texts, any of them alike. -/
namespace Dl
open PySem L2 PyProof.Rows
/-! ### each once, in the order met -/
section
variable {α : Type} [DecidableEq α]
def dd (xs : List α) : List α := xs.foldl (fun acc x => if x ∈ acc then acc else acc ++ [x]) []
def nd (xs : List α) : Nat := (dd xs).length
theorem dd_snoc (xs : List α) (x : α) : dd (xs ++ [x]) = if x ∈ dd xs then dd xs else dd xs ++ [x] := by unfold dd; rw [List.foldl_append]; rfl
theorem snoc_ind {P : List α → Prop} (h0 : P []) (h1 : ∀ xs x, P xs → P (xs ++ [x])) (xs : List α) : P xs := by
  have : ∀ n, ∀ ys : List α, ys.length = n → P ys := by
    intro n
    induction n with
    | zero => intro ys h; rw [List.length_eq_zero_iff.mp h]; exact h0
    | succ n ih =>
      intro ys h
      have ne : ys ≠ [] := fun e => by rw [e] at h; cases h
      have e := List.dropLast_concat_getLast ne
      rw [← e]
      exact h1 _ _ (ih _ (by rw [List.length_dropLast, h]; rfl))
  exact this _ xs rfl
theorem mem_dd {k : α} (xs : List α) : k ∈ dd xs ↔ k ∈ xs := by
  refine snoc_ind (P := fun xs => k ∈ dd xs ↔ k ∈ xs) (by simp [dd]) (fun xs x ih => ?_) xs
  rw [dd_snoc]
  split
  · rename_i h
    rw [ih, List.mem_append, List.mem_singleton]
    constructor
    · exact .inl
    · rintro (z | rfl)
      · exact z
      · exact ih.mp h
  · rw [List.mem_append, ih, List.mem_append]
theorem nd_le (xs : List α) : nd xs ≤ xs.length := by
  refine snoc_ind (P := fun xs => nd xs ≤ xs.length) (Nat.le_refl _) (fun xs x ih => ?_) xs
  unfold nd at *
  rw [dd_snoc, List.length_append]
  split
  · omega
  · rw [List.length_append]; exact Nat.add_le_add_right ih 1
theorem nd_nodup (xs : List α) : xs.Nodup ↔ nd xs = xs.length := by
  refine snoc_ind (P := fun xs => xs.Nodup ↔ nd xs = xs.length) (by simp [nd, dd]) (fun xs x ih => ?_) xs
  have hl := nd_le xs
  have e : nd (xs ++ [x]) = if x ∈ xs then nd xs else nd xs + 1 := by
    unfold nd
    rw [dd_snoc]
    by_cases c : x ∈ xs
    · rw [if_pos ((mem_dd xs).mpr c), if_pos c]
    · rw [if_neg (fun z => c ((mem_dd xs).mp z)), if_neg c, List.length_append]; rfl
  rw [List.nodup_append, e, List.length_append, List.length_singleton]
  by_cases c : x ∈ xs
  · rw [if_pos c]
    constructor
    · intro h; exact absurd rfl (h.2.2 x c x (List.mem_singleton.mpr rfl))
    · intro h; omega
  · rw [if_neg c]
    constructor
    · intro h; rw [ih.mp h.1]
    · intro h
      exact ⟨ih.mpr (by omega), by simp, fun a ha b hb => by rw [List.mem_singleton.mp hb]; exact fun z => c (z ▸ ha)⟩
end
theorem or_snoc (k x : Str) (l : List Str) : (decide (k ∈ l) || decide (k = x)) = decide (k ∈ l ++ [x]) := by
  by_cases c1 : k ∈ l <;> by_cases c2 : k = x <;> simp [c1, c2]
theorem firstMet_dd (ns : List Int) : ∀ n, n ≤ ns.length → firstMet (fun i => ns.getD i 0) n = dd (ns.take n)
  | 0, _ => rfl
  | n + 1, h => by
    have e : ns.take (n + 1) = ns.take n ++ [ns[n]] := by rw [List.take_add_one, List.getElem?_eq_getElem (by omega)]; rfl
    have g : ns.getD n 0 = ns[n] := by rw [List.getD_eq_getElem?_getD, List.getElem?_eq_getElem (by omega)]; rfl
    rw [firstMet_succ, firstMet_dd ns n (by omega), e, dd_snoc, g]
    have : ((dd (ns.take n)).any (· == ns[n])) = decide (ns[n] ∈ dd (ns.take n)) := by
      apply Bool.eq_iff_iff.mpr
      rw [List.any_eq_true, decide_eq_true_iff]
      exact ⟨fun ⟨y, hy, q⟩ => (eq_of_beq q) ▸ hy, fun h => ⟨_, h, beq_self_eq_true _⟩⟩
    show (if (dd (ns.take n)).any (· == ns[n]) = true then dd (ns.take n) else dd (ns.take n) ++ [ns[n]]) = _
    rw [this]
    by_cases c : ns[n] ∈ dd (ns.take n)
    · rw [decide_eq_true c, if_pos rfl, if_pos c]
    · rw [decide_eq_false c, if_neg Bool.false_ne_true, if_neg c]
/-! ### texts -/
section
variable {prog : Program} {w : World} {A : Around} {R : Result → Shared → Prop} {it : Addr} {fp wr : List Addr} {G : Array GenState → Array GenState → Prop} {n : Nat} {P : Nat → Value → Prop} {St : Nat → Shared → Prop}
def SetS (prog : Program) (w : World) (h : Heap) (a : Addr) (xs : List Str) : Prop := h.SetOf (PySem.strKind prog w) a (fun k => decide (k ∈ xs)) (nd xs)
theorem strs_turns (W : WalksS prog w A.in1 it fp wr G n P St) (a : Addr) (ha : a ∉ fp) (xs : List Str) (hz : xs.length = n) (hb : n + 1 < scanBound)
    (hv : ∀ i v, P i v → ∃ t, v = .str (xs.getD i Str.empty) t) :
    ∀ (k i : Nat) (s : Shared), n - i = k → i ≤ n → St i s → SetS prog w s.heap a (xs.take i) →
      (∀ s', Moved (a :: wr) G s s' → SetS prog w s'.heap a xs → R (.ok (.ret .none)) s') →
      codeAny (model prog w) A (.builtin "set.update.loop" ⟨[.ref a, .ref it], []⟩) R s := by
  have hw : a ∉ wr := fun h => ha (W.sub _ h)
  have up : ∀ b ∈ wr, b ∈ a :: wr := fun b hb => List.mem_cons_of_mem _ hb
  have moves : ∀ {s s' : Shared} {ys : List Str}, Moved wr G s s' → SetS prog w s.heap a ys → SetS prog w s'.heap a ys := fun {s s' ys} hm hS => by
    obtain ⟨o, es, ep, t, ho, rest⟩ := hS
    exact ⟨o, es, ep, t, hm.heap a _ hw ho, rest⟩
  intro k
  induction k with
  | zero =>
    intro i s hk hi hst hS hR
    have e : i = n := by omega
    subst e
    refine codeAny_builtin F.entry_set_update_loop ?_
    rw [Around.under_plainId F.plain_set_update_loop _]
    show wpAny _ A.in1 (pyNext (.ref it) >>= _) _ _ s
    refine wpAny_bind (W.done s _ _ hst fun s1 hm => ?_)
    show wpAny _ A.in1 (ret Value.none) _ _ s1
    have hS1 := moves hm hS
    rw [← hz, List.take_length] at hS1
    exact wpAny_pure (hR s1 (hm.mono up) hS1)
  | succ k ih =>
    intro i s hk hi hst hS hR
    have hlt : i < n := by omega
    have hlt2 : i < xs.length := by omega
    refine codeAny_builtin F.entry_set_update_loop ?_
    rw [Around.under_plainId F.plain_set_update_loop _]
    show wpAny _ A.in1 (pyNext (.ref it) >>= _) _ _ s
    refine wpAny_bind (W.item i s _ _ hlt hst fun v s1 hP hst1 hm => ?_)
    obtain ⟨t, rfl⟩ := hv i v hP
    have hS1 := moves hm hS
    have g : xs.getD i Str.empty = xs[i] := by rw [List.getD_eq_getElem?_getD, List.getElem?_eq_getElem hlt2]; rfl
    have few : nd (xs.take i) + 1 < scanBound := by
      have := nd_le (xs.take i)
      rw [List.length_take] at this
      omega
    rw [g]
    show wpAny _ A.in1 (holding [Value.str xs[i] t] (setAdd a (.str xs[i] t)) >>= _) _ _ s1
    refine wpAny_bind (wpAny_holding ?_)
    unfold setAdd
    refine wpAny_holding (wpAny_bind ((PySem.strKind prog w).pyHash (k := xs[i]) (strKind_is _ _ _ _) ?_))
    refine wpAny_setAddHashed_of (knd := PySem.strKind prog w) (s := { s1 with toks := s1.toks + 1 }) (strKind_is _ _ _ _) rfl hS1 (by omega) fun h2 sb hS2 => ?_
    have e2 : xs.take (i + 1) = xs.take i ++ [xs[i]] := by rw [List.take_add_one, List.getElem?_eq_getElem hlt2]; rfl
    have hS3 : SetS prog w h2 a (xs.take (i + 1)) := by
      rw [e2]
      refine SetOf_congr hS2 (fun k' => ?_) ?_
      · show (decide (k' ∈ xs.take i) || decide (k' = xs[i])) = decide (k' ∈ xs.take i ++ [xs[i]])
        exact or_snoc _ _ _
      · unfold nd
        rw [dd_snoc]
        by_cases c : xs[i] ∈ xs.take i
        · have c' : xs[i] ∈ dd (xs.take i) := (mem_dd _).mpr c
          simp [c, c']
        · have c' : ¬ xs[i] ∈ dd (xs.take i) := fun z => c ((mem_dd _).mp z)
          simp [c, c']
    refine wpAny_pure ⟨plainId_quiet F.plain_set_update_loop _, ih (i + 1) _ (by omega) hlt (W.frame _ s1 _ _ hst1 (Nat.le_succ _) fun b hb o e => ?_) hS3 fun s2 hm2 hS4 => ?_⟩
    · rw [sb.2 b (fun h : b = a => ha (h ▸ hb))]; exact e
    · refine hR s2 (Moved.trans W.gtrans ((hm.mono up).then_heap (Nat.le_succ _) fun b o hb e => ?_) hm2) hS4
      rw [sb.2 b (fun h : b = a => hb (h ▸ List.mem_cons_self))]; exact e
end
section
variable {P : Program} {w : World} {A : Around} {E : Value → Shared → Prop} {s : Shared}
set_option maxHeartbeats 3200000 in
/-- set(xs), xs a list of texts -/
theorem set_of_strs {l : Addr} {items : Array Value} (xs : List Str) {Q : Value → Shared → Prop} (hh : A.handled = none) (hl : s.heap.IsList l items) (hit : StrsAre items.toList xs) (hb : xs.length + 1 < scanBound)
    (h : ∀ (h' : Heap) (tk : Nat), SetS P w h' s.heap.objs.size xs → (∀ b o, s.heap.get? b = some o → h'.get? b = some o) → Q (.ref s.heap.objs.size) { s with heap := h', toks := tk }) :
    wpAny (model P w) A (call (.type "set") [.ref l]) Q E s := by
  have sz : items.size = xs.length := by
    rw [← Array.length_toList]
    exact (StrsAre.len_eq hit)
  obtain ⟨c, tl, hmro⟩ := PySem.F.called_set.mro
  have f1 := PySem.F.called_set.made
  have f2 := PySem.F.called_set.sub
  have f3 := PySem.F.called_set.notType
  have f4 := PySem.F.called_set.canCreate
  have f5 := PySem.F.typeCall_set_1 (.ref l)
  refine wpAny_call (codeAny_of_tree ?_)
  show wpAny _ _ (callAny (.type "set") _) _ _ _
  refine wpAny_pure ⟨Code.quiet_builtin _ (by decide +kernel), codeAny_builtin PySem.F.entry_type_call ?_⟩
  rw [Around.under_plain (weight_type_call_type "set" [.ref l] []) rfl]
  repeat (any_goals (first | assumption | wp_step))
  refine codeAny_mono (code_set_led1 (.ref l) (E := E) (Q₁ := fun o s₁ => o = .ref s.heap.objs.size ∧ s₁ = { s with heap := s.heap.push (setObj w) }) ⟨rfl, rfl⟩) fun r s₁ hr => ?_
  match r, hr with
  | .error e, hr => exact hr
  | .ok (.ret obj), hr =>
    obtain ⟨rfl, rfl⟩ := hr
    have g1 : (s.heap.push (setObj w)).get? s.heap.objs.size = some (setObj w) := Heap.get?_push_size _ rfl
    have g2 : Shared.TypeIs { s with heap := s.heap.push (setObj w) } (.ref s.heap.objs.size) "set" := ⟨_, g1, rfl⟩
    have f6 := PySem.F.called_set.init.lookup
    have f7 := PySem.F.called_set.init.bind (.ref s.heap.objs.size)
    repeat (any_goals (first | assumption | wp_step))
    refine codeAny_mono (codeAny_call_builtin (R := wants (fun r s₂ => r = .none ∧ ∃ h' tk, s₂ = { s with heap := h', toks := tk } ∧ SetS P w h' s.heap.objs.size xs ∧
        (∀ b o, s.heap.get? b = some o → h'.get? b = some o)) E) PySem.F.called_set.init.plain PySem.F.entry_set_init (check_set_init_1 g2 ?_)) fun r₂ s₂ hr₂ => ?_
    · obtain ⟨ol, hol, hcl, nl, hdl⟩ := hl
      obtain ⟨ocls, odict, odata, oslots⟩ := ol
      simp only at hcl hdl
      subst hcl hdl
      have hol' : (s.heap.push (setObj w)).get? l = some { cls := .type "list", dict := odict, data := .seq items nl, slots := oslots } := Heap.get?_push_of_some _ hol
      have f8 := PySem.F.sub_list_set
      have f9 := PySem.F.sub_list_frozenset
      have hne : (Value.type "list" == Value.type "dict") = false := by decide
      have hl1 : (s.heap.push (setObj w)).IsList l items := ⟨_, hol', rfl, nl, rfl⟩
      unfold Builtin.«set.__init__» noKeywords Builtin.Frozenset.updateFrom
      generalize hPI : pyIter = PI
      wp_walk
      subst hPI
      refine wpAny_pyIter_list hl1 ?_
      refine wpAny_bind (wpAny_runValue ?_)
      have lS : l < s.heap.objs.size := Heap.lt_size hol
      have hh3 : A.in1.in1.in1.handled = none := by simp [hh]
      have n1 : l ≠ (s.heap.push (setObj w)).objs.size := by rw [Heap.size_push]; exact Nat.ne_of_lt (Nat.lt_succ_of_lt lS)
      have n2 : s.heap.objs.size ∉ [(s.heap.push (setObj w)).objs.size, l] := by
        rw [Heap.size_push]
        simp only [List.mem_cons, List.not_mem_nil, or_false, not_or]
        exact ⟨Nat.ne_of_lt (Nat.lt_succ_self _), Nat.ne_of_gt lS⟩
      have hval : ∀ (i : Nat) (v : Value), items[i]? = some v → ∃ t, v = .str (xs.getD i Str.empty) t := fun i v hv => SS.strs_at hit i v (by rw [Array.getElem?_toList]; exact hv)
      have new : SetS P w (s.heap.push (setObj w)) s.heap.objs.size (xs.take 0) := SetOf_congr ((setObjOf_fresh (knd := PySem.strKind P w) (!w.params.followText "set-order")).setOf g1 (by unfold scanBound; omega)) (fun _ => by simp) (by simp [nd, dd])
      refine strs_turns ((Walks.list hh3 _ l n1 items).toS) s.heap.objs.size n2 xs sz.symm (by omega) hval (items.size - 0) 0 _ (by omega) (Nat.zero_le _) ⟨⟨_, Heap.get?_push_size _ rfl, rfl, rfl⟩, (hl1.push _)⟩ ?a0 ?aR
      case a0 =>
        obtain ⟨o, es, ep, t, ho, rest⟩ := new
        exact ⟨o, es, ep, t, Heap.get?_push_of_some _ ho, rest⟩
      case aR =>
        intro s' hm hS'
        obtain ⟨h', g', d', tk', os'⟩ := s'
        have eg : g' = s.gens := hm.gens
        have ed : d' = s.drawn := hm.drawn
        have eo : os' = s.os := hm.os
        subst eg ed eo
        show wpAny _ _ _ _ _ _
        refine wpAny_pure ?_
        show wpAny _ _ (ret Value.none) _ _ _
        refine wpAny_pure ⟨rfl, h', tk', rfl, hS', fun b o e => ?_⟩
        have hb0 := Heap.lt_size e
        refine hm.heap b o ?_ (Heap.get?_push_of_some _ (Heap.get?_push_of_some _ e))
        simp only [List.mem_cons, List.not_mem_nil, or_false, not_or]
        refine ⟨Nat.ne_of_lt hb0, ?_⟩
        rw [Heap.size_push]
        exact Nat.ne_of_lt (Nat.lt_succ_of_lt hb0)
    · match r₂, hr₂ with
      | .error e, hr₂ => exact hr₂
      | .ok (.ret r), hr₂ =>
        obtain ⟨rfl, h', tk, rfl, hS', hk'⟩ := hr₂
        repeat (any_goals (first | assumption | wp_step))
        exact h _ _ hS' hk'
      | .ok .next, hr₂ => exact hr₂.elim
      | .ok .brk, hr₂ => exact hr₂.elim
      | .ok .cont, hr₂ => exact hr₂.elim
  | .ok .next, hr => exact hr.elim
  | .ok .brk, hr => exact hr.elim
  | .ok .cont, hr => exact hr.elim
end
/-! ### the rule -/
section
variable {X : Cx} {Γ : CM} {M : List Mode} {a : Expr} {ta : TE} {f : Ev} {m : Mode}
def tLenSet (K : PySem.W.Frag) (ta : TE) : TE := fun σ H Q => ta σ H fun x H1 => ∃ l : Addr, x = .ref l ∧ ((∃ ns : List Int, SqL K H1 l (ns.map V.int) ∧ ns.length ≤ 4000 ∧ Q (.int (nd ns : Nat)) H1) ∨ ∃ xs : List Str, SqL K H1 l (xs.map V.str) ∧ xs.length ≤ 4000 ∧ Q (.int (nd xs : Nat)) H1)
theorem pe_lenSetG {p p2 q pos : Pos} (hc : X.calm = true) (hg : Gl X "len") (hm : X.mg "len" = none) (hg2 : Gl X "set") (hm2 : X.mg "set" = none) (ha : PE X a ta)
    (na : starEach [a] X.env = (false, eval a X.env) :: starEach [] X.env := by rfl) : PE X (.Call (.Name "len" p) [.Call (.Name "set" p2) [a] [] q] [] pos) (tLenSet X.K ta) := by
  refine ⟨fun pins s σ H Q I h => ?_⟩
  refine Call_ (ld_blt I hg hm boot_len ?_)
  refine callWith_builtin1 (args_cons ?_ rfl) rfl rfl
  refine Call_ (ld_blt I hg2 hm2 boot_set ?_)
  refine callWith_type1 (args_cons (thn (ha.run pins s σ H _ I h) fun v s1 ⟨x, H1, I1, r1, q1⟩ => args_nil ?_) na) na rfl
  obtain ⟨l, rfl, q1⟩ := q1
  cases r1
  rcases q1 with ⟨ns, hq, hl, q1⟩ | ⟨xs, hq, hl, q1⟩
  · obtain ⟨its, r, pl, hz⟩ := I1.list hq
    have hn : its.toArray.size = ns.length := by rw [List.size_toArray, ← r.length, List.length_map]
    refine call_set_list (I1.ok.hd hc) pl.isList (by simpa using r.ints) (by rw [hn]; unfold scanBound; omega) fun h' tk hS hk => ?_
    refine args_nil ?_
    rw [hn, firstMet_dd ns ns.length (Nat.le_refl _), List.take_length] at hS
    obtain ⟨o, es, ep, t, ho, hex, hd, _, _, _, hf, hsz⟩ := hS
    have I2 : Inv X pins σ H1 { s1 with heap := h', toks := tk } := I1.kept fun b o e => hk b o (Heap.lt_size e) e
    have hle := nd_le ns
    have hsz : es.size = nd ns := hsz
    exact call_len_set ho hex hd hf (by rw [hsz]; omega) ⟨.int (nd ns : Nat), H1, I2.tok _, ⟨_, by rw [hsz]⟩, q1⟩
  · obtain ⟨its, r, pl, hz⟩ := I1.list hq
    refine set_of_strs xs (I1.ok.hd hc) pl.isList (by simpa using strsAre_of r) (by unfold scanBound; omega) fun h' tk hS hk => ?_
    refine args_nil ?_
    obtain ⟨o, es, ep, t, ho, hex, hd, _, _, _, hf, hsz⟩ := hS
    have I2 : Inv X pins σ H1 { s1 with heap := h', toks := tk } := I1.kept fun b o e => hk b o e
    have hle := nd_le xs
    have hsz : es.size = nd xs := hsz
    exact call_len_set ho hex hd hf (by rw [hsz]; omega) ⟨.int (nd xs : Nat), H1, I2.tok _, ⟨_, by rw [hsz]⟩, q1⟩
def lenSetD (d : D) : Option Int := match d with
  | .lst ds => if ds.length ≤ 4000 then match intsOf ds with
    | some ns => some (nd ns : Nat)
    | none => (strsOf ds).bind fun xs => some (nd xs : Nat)
    else none
  | _ => none
def vLenSet (f : Ev) : Ev := fun δ => (f δ).bind fun d => (lenSetD d).map D.int
theorem de_lenSet {p p2 q pos : Pos} (K : PySem.W.Frag) (hc : X.calm = true) {u : Prop} (hu : u) (hm : X.mg "len" = none) (hm2 : X.mg "set" = none) (ha : DE Γ X M a ta f m) (hg : Gl X "len" := by rfl) (hg2 : Gl X "set" := by rfl)
    (na : starEach [a] X.env = (false, eval a X.env) :: starEach [] X.env := by rfl) (hK : X.K = K := by rfl) : DE Γ X M (.Call (.Name "len" p) [.Call (.Name "set" p2) [a] [] q] [] pos) (tLenSet K ta) (vLenSet f) .sh := by
  subst hK
  exact ⟨pe_lenSetG hc hg hm hg2 hm2 ha.pe na, fun S0 H0 S H σ δ Q d w ef k => by
    obtain ⟨l, e1, e2⟩ := bind_some ef
    obtain ⟨i, e3, rfl⟩ := map_some e2
    cases l with
    | lst ds =>
      have e3 : (if ds.length ≤ 4000 then match intsOf ds with | some ns => some ((nd ns : Nat) : Int) | none => (strsOf ds).bind fun xs => some ((nd xs : Nat) : Int) else none) = some i := e3
      split at e3
      · rename_i hl4
        refine ha.snd S0 H0 S H σ δ _ _ w e1 fun v S1 H1 x1 r1 _ => ?_
        obtain ⟨p, vs, ev, hp, hl, rl⟩ := r1.lst x1.sh (w.mono x1).h0
        have fin : ∀ n, i = n → X.K = X.K → Q (.int n) H1 := fun n e _ => e ▸ (k.ext x1).flat x1.sh rfl
        refine ⟨p, ev, ?_⟩
        split at e3
        · rename_i ns hn
          have ew := rl.intsOf hn
          have ln : ns.length = ds.length := by have := rl.length; rw [ew, List.length_map] at this; exact this
          cases e3
          exact .inl ⟨ns, by rw [← ew]; exact SqL.of hp, by omega, fin _ rfl rfl⟩
        · obtain ⟨xs, hx, e4⟩ := bind_some e3
          have ew := rl.strsOf hx
          have ln : xs.length = ds.length := by have := rl.length; rw [ew, List.length_map] at this; exact this
          cases e4
          exact .inr ⟨xs, by rw [← ew]; exact SqL.of hp, by omega, fin _ rfl rfl⟩
      · cases e3
    | _ => cases e3⟩
end
end Dl
/-! list(dict), sorted of pairs. -/
namespace Dl
open PySem L2
def kD : Key → D
  | .inl i => .int i
  | .inr x => .str x
def kOk : Key → Bool
  | .inl _ => true
  | .inr x => decide (x.length ≤ sizeLine)
def ksOk (ks : List Key) : Bool := decide (ks.length ≤ sizeLine) && ks.all kOk
section
variable {K : PySem.W.Frag} {Γ : CM} {S H S' : Hp}
theorem rep_key : ∀ {k : Key}, kOk k = true → Rep K Γ S (kD k) (kV k)
  | .inl _, _ => rfl
  | .inr _, h => ⟨rfl, of_decide_eq_true h⟩
theorem repL_keys : ∀ {ks : List Key}, ks.all kOk = true → RepL K Γ S (ks.map kD) (ks.map kV)
  | [], _ => rfl
  | k :: ks, h => by
    rw [List.all_cons, Bool.and_eq_true] at h
    exact ⟨_, _, rfl, rep_key h.1, repL_keys h.2⟩
theorem RepK.keys : ∀ {kvs : List (Key × D)} {vs : List (Key × V)}, (kvs.all fun kv => kOk kv.1) = true → RepK K Γ S kvs vs → RepL K Γ S (kvs.map fun kv => kD kv.1) (vs.map fun kv => kV kv.1)
  | [], _, _, h => by cases (show _ = [] from h); rfl
  | (k, d) :: kvs, _, h, ⟨v, ws, e, r, t⟩ => by
    subst e
    rw [List.all_cons, Bool.and_eq_true] at h
    exact ⟨_, _, rfl, rep_key h.1, RepK.keys h.2 t⟩
theorem RepT.keys : ∀ {kvs : List (List Key × D)} {vs : List (List Key × V)} {bs : List Addr}, (kvs.all fun kv => ksOk kv.1) = true → RepT K Γ S kvs vs → IsKeys H vs bs →
    (∀ b ∈ bs, ∀ xs, H b = some (.tup xs) → S' b = some (.tup xs)) → RepL K Γ S' (kvs.map fun kv => .tup (kv.1.map kD)) (bs.map V.ref) ∧ ∀ b ∈ bs, ∃ xs, H b = some (.tup xs)
  | [], _, _, _, h, q, _ => by
    cases (show _ = [] from h)
    cases q
    exact ⟨rfl, fun b hb => by cases hb⟩
  | (k, d) :: kvs, _, bs, h, ⟨v, ws, e, r, t⟩, q, f => by
    subst e
    rw [List.all_cons, Bool.and_eq_true] at h
    cases q with
    | cons q1 q2 =>
      obtain ⟨r2, h2⟩ := RepT.keys h.2 t q2 fun b hb xs hx => f b (List.mem_cons_of_mem _ hb) xs hx
      have h1 := h.1
      unfold ksOk at h1
      rw [Bool.and_eq_true] at h1
      refine ⟨⟨_, _, rfl, ⟨_, _, rfl, f _ List.mem_cons_self _ q1, by rw [List.length_map]; exact of_decide_eq_true h1.1, repL_keys h1.2⟩, r2⟩, fun b hb => ?_⟩
      rcases List.mem_cons.mp hb with rfl | hb
      · exact ⟨_, q1⟩
      · exact h2 b hb
/-- tuples that stand in the heap become shared -/
noncomputable def addT (S H : Hp) (bs : List Addr) : Hp := fun a => match S a with
  | some o => some o
  | none => open Classical in if a ∈ bs then H a else none
theorem addT_ext {bs : List Addr} (sh : Same S H) (h : ∀ b ∈ bs, ∃ xs, H b = some (.tup xs)) : Ext S H (addT S H bs) H := by
  refine ⟨fun a o e => by unfold addT; rw [e], Same.refl _, fun a o e => ?_, fun a o e t n => ?_⟩
  · unfold addT at e
    cases q : S a with
    | some o' => rw [q] at e; cases e; exact sh _ _ q
    | none =>
      rw [q] at e
      by_cases c : a ∈ bs
      · simpa only [if_pos c] using e
      · simp only [if_neg c] at e; cases e
  · unfold addT
    rw [n]
    by_cases c : a ∈ bs
    · obtain ⟨xs, hx⟩ := h a c
      rw [hx] at e; cases e; cases t
    · simp only [if_neg c]
theorem addT_at {bs : List Addr} (sh : Same S H) {b : Addr} (hb : b ∈ bs) {xs : List V} (h : H b = some (.tup xs)) : addT S H bs b = some (.tup xs) := by
  unfold addT
  cases q : S b with
  | some o => rw [sh _ _ q] at h; exact h
  | none => simp only [if_pos hb]; exact h
end
def opListD : List D → Option D
  | [.dicK kvs] => if kvs.length ≤ sizeLine ∧ (kvs.all fun kv => kOk kv.1) = true then some (.lst (kvs.map fun kv => kD kv.1)) else none
  | [.dicT kvs] => if kvs.length ≤ sizeLine ∧ (kvs.all fun kv => ksOk kv.1) = true then some (.lst (kvs.map fun kv => .tup (kv.1.map kD))) else none
  | ds => opList ds
def rListK (K : PySem.W.Frag) : List V → Hp → VK → Prop := fun xs H Q => (∃ p ys, xs = [.ref p] ∧ (SqL K H p ys ∨ SqT K H p ys) ∧ ∀ l, H l = none → Q (.ref l) (upd H l (.lst ys))) ∨
  ((∃ (a : Addr) (kvs : List (Key × V)), xs = [.ref a] ∧ Rd H a (.dK kvs) ∧ ∀ p, H p = none → Q (.ref p) (upd H p (.lst (kvs.map fun kv => kV kv.1)))) ∨
   ∃ d kvs, xs = [V.ref d] ∧ Rd H d (.dT kvs) ∧ ∀ p bs, H p = none → IsKeys H kvs bs → Q (.ref p) (upd H p (.lst (bs.map V.ref))))
section
variable {X : Cx} {Γ : CM} {K : PySem.W.Frag} {m : Mode}
theorem cd_listD (hm : okS m = true) (hc : X.calm = true) (hK : X.K = K := by rfl) : CD Γ X (.type "list") (rListK K) opListD [.bo] m := by
  subst hK
  refine ⟨call_list_of.or ((call_listD hc).or (call_list_dT hc)), fun S H ds vs d Q sh r e k => ?_⟩
  match ds, e, r with
  | [.dicK kvs], e, r =>
    obtain ⟨hc, rfl⟩ := ite_some e
    obtain ⟨v, rfl, r1⟩ := ArgMs.get1 r
    obtain ⟨p, vs, ev, hp, rl⟩ := r1.dicK sh (Same.refl _)
    exact .inr (.inl ⟨p, vs, by rw [ev], .inl hp, fun l h => k.newL hm sh (by rw [List.length_map]; exact hc.1) (RepK.keys hc.2 rl) h⟩)
  | [.dicT kvs], e, r =>
    obtain ⟨hc, rfl⟩ := ite_some e
    obtain ⟨v, rfl, r1⟩ := ArgMs.get1 r
    obtain ⟨p, vs, ev, hp, rl⟩ := r1.dicT sh (Same.refl _)
    refine .inr (.inr ⟨p, vs, by rw [ev], .inl hp, fun l bs h hb => ?_⟩)
    obtain ⟨_, h2⟩ := RepT.keys (S' := H) hc.2 rl hb fun b _ xs hx => hx
    have x := addT_ext sh h2
    obtain ⟨r2, _⟩ := RepT.keys (S' := addT S H bs) hc.2 rl hb fun b hb xs hx => addT_at sh hb hx
    have k' : Kont X.K Γ H (addT S H bs) H m _ Q := fun v S2 H2 e r f => k v S2 H2 (x.trans e) r f
    exact k'.newL hm x.sh (by rw [List.length_map]; exact hc.1) r2 h
  | [.lst es], e, r => exact .inl ((cd_list (Γ := Γ) (X := X) hm).snd S H _ vs d Q sh r e k)
  | [.tup es], e, r => exact .inl ((cd_list (Γ := Γ) (X := X) hm).snd S H _ vs d Q sh r e k)
end
/-! ### sorted of pairs of ints -/
def pD (p : Int × Int) : D := .tup [.int p.1, .int p.2]
def pairsOf : List D → Option (List (Int × Int))
  | [] => some []
  | .tup [.int i, .int j] :: ds => (pairsOf ds).map ((i, j) :: ·)
  | _ => none
def lePP (p q : Int × Int) : Bool := !SrtO.lexB q p
def sortP (ps : List (Int × Int)) : List (Int × Int) := ps.mergeSort lePP
theorem lePP_trans (a b c : Int × Int) (h1 : lePP a b = true) (h2 : lePP b c = true) : lePP a c = true := by
  unfold lePP at *
  rw [Bool.not_eq_true'] at *
  have := SrtO.lexB_no.mp h1
  have := SrtO.lexB_no.mp h2
  exact SrtO.lexB_no.mpr (by omega)
theorem lePP_total (a b : Int × Int) : (lePP a b || lePP b a) = true := by
  unfold lePP
  cases q : SrtO.lexB b a with
  | false => rfl
  | true =>
    have := SrtO.lexB_iff.mp q
    rw [SrtO.lexB_no.mpr (by omega)]; rfl
theorem lePP_anti {a b : Int × Int} (h1 : lePP a b = true) (h2 : lePP b a = true) : a = b := by
  unfold lePP at *
  rw [Bool.not_eq_true'] at *
  have := SrtO.lexB_no.mp h1
  have := SrtO.lexB_no.mp h2
  exact Prod.ext (by omega) (by omega)
theorem sortP_perm (ps : List (Int × Int)) : (sortP ps).Perm ps := List.mergeSort_perm ps _
theorem sortP_le (ps : List (Int × Int)) : (sortP ps).Pairwise fun a b => lePP a b = true := List.pairwise_mergeSort lePP_trans lePP_total ps
theorem sortP_uniq {a b : List (Int × Int)} (h : a.Perm b) (p : a.Pairwise fun a b => lePP a b = true) (q : b.Pairwise fun a b => lePP a b = true) : a = b := h.eq_of_pairwise (fun x y _ _ h1 h2 => lePP_anti h1 h2) p q
def opSortedD : List D → Option D
  | [.lst ds] => match intsOf ds with
    | some ns => some (.lst ((sortI ns).map D.int))
    | none => (pairsOf ds).map fun ps => .lst ((sortP ps).map pD)
  | _ => none
section
variable {X : Cx} {Γ : CM}
theorem pairsOf_map : ∀ {ds : List D} {ps : List (Int × Int)}, pairsOf ds = some ps → ds = ps.map pD
  | [], _, e => by cases e; rfl
  | .tup [.int i, .int j] :: ds, _, e => by
    obtain ⟨qs, e1, rfl⟩ := map_some (show (pairsOf ds).map ((i, j) :: ·) = _ from e)
    rw [List.map_cons, ← pairsOf_map e1]; rfl
noncomputable def kH (S : Hp) : V → Int × Int
  | .ref t => match S t with
    | some (.tup [.int i, .int j]) => (i, j)
    | _ => (0, 0)
  | _ => (0, 0)
theorem repL_pairs {K : PySem.W.Frag} {S : Hp} : ∀ {ps : List (Int × Int)} {vs : List V}, RepL K Γ S (ps.map pD) vs → vs.map (kH S) = ps ∧ ∀ v ∈ vs, (∃ t, v = .ref t ∧ S t = some (.tup [.int (kH S v).1, .int (kH S v).2]))
  | [], _, h => by cases (show _ = [] from h); exact ⟨rfl, fun v hv => by cases hv⟩
  | p :: ps, _, ⟨v, ws, e, r, t⟩ => by
    subst e
    obtain ⟨a, xs, rfl, hS, _, rl⟩ := r
    obtain ⟨x, xs', rfl, rx, y, ys', rfl, ry, rfl⟩ := rl
    cases (show x = .int p.1 from rx)
    cases (show y = .int p.2 from ry)
    have e1 : kH S (.ref a) = p := by show (match S a with | some (.tup [.int i, .int j]) => (i, j) | _ => (0, 0)) = p; rw [hS]
    obtain ⟨e2, h2⟩ := repL_pairs t
    refine ⟨by rw [List.map_cons, e1, e2], fun v hv => ?_⟩
    rcases List.mem_cons.mp hv with rfl | hv
    · exact ⟨a, rfl, by rw [e1]; exact hS⟩
    · exact h2 v hv
theorem repL_of_pairs {K : PySem.W.Frag} {S : Hp} : ∀ {vs : List V}, (∀ v ∈ vs, (∃ t, v = .ref t ∧ S t = some (.tup [.int (kH S v).1, .int (kH S v).2]))) → RepL K Γ S ((vs.map (kH S)).map pD) vs
  | [], _ => rfl
  | v :: vs, h => by
    obtain ⟨t, rfl, hS⟩ := h v List.mem_cons_self
    exact ⟨_, _, rfl, ⟨t, _, rfl, hS, two_le, ⟨_, _, rfl, rfl, _, _, rfl, rfl, rfl⟩⟩, repL_of_pairs fun v hv => h v (List.mem_cons_of_mem _ hv)⟩
theorem cd_sortedD {u : Prop} (hu : u) : CD Γ X (.builtin "sorted") (fun vs H Q => rSortedI X.K vs H Q ∨ rSortedPO X.K vs H Q) opSortedD [.bo] .ow := by
  refine ⟨cr_sortedI.or cr_sortedPO, fun S H ds vs d Q sh r e k => ?_⟩
  match ds, e, r with
  | [.lst es], e, r =>
    cases q : intsOf es with
    | some ns =>
      refine .inl ((cd_sorted (Γ := Γ) (X := X) hu).snd S H _ vs d Q sh r ?_ k)
      have e : (match intsOf es with | some ns => some (D.lst ((sortI ns).map D.int)) | none => (pairsOf es).map fun ps => D.lst ((sortP ps).map pD)) = some d := e
      rw [q] at e
      show (intsOf es).map (fun ns => D.lst ((sortI ns).map D.int)) = some d
      rw [q]; exact e
    | none =>
      have e : (match intsOf es with | some ns => some (D.lst ((sortI ns).map D.int)) | none => (pairsOf es).map fun ps => D.lst ((sortP ps).map pD)) = some d := e
      rw [q] at e
      obtain ⟨ps, e1, rfl⟩ := map_some e
      cases pairsOf_map e1
      obtain ⟨v, rfl, r1⟩ := ArgMs.get1 r
      obtain ⟨p, ws, ev, hp, hl, rl⟩ := r1.lst sh (Same.refl _)
      obtain ⟨e2, h2⟩ := repL_pairs rl
      refine .inr ⟨p, ws, kH S, by rw [ev], SqL.of hp, fun x hx => ?_, fun ys q hs hb hq => ?_⟩
      · obtain ⟨t, e3, hS⟩ := h2 x hx
        exact ⟨t, e3, sh _ _ hS⟩
      · have pm : ys.Perm ws := hb.perm
        have e4 : ys.map (kH S) = sortP ps := by
          refine sortP_uniq ((pm.map _).trans ?_) ?_ (sortP_le ps)
          · rw [e2]; exact (sortP_perm ps).symm
          · rw [List.pairwise_map]
            refine hs.imp fun h => ?_
            unfold lePP
            rw [Bool.not_eq_true']
            exact h
        refine k.newL rfl sh ?_ ?_ hq
        · rw [List.length_map, (sortP_perm ps).length_eq]; rw [List.length_map] at hl; exact hl
        · rw [← e4]
          exact repL_of_pairs fun v hv => h2 v (pm.mem_iff.mp hv)
end
end Dl
/-! d.get, dict(pairs). -/
namespace Dl
open PySem L2
def opGet (o k d : D) : Option D := match o with
  | .dicK kvs => (keyD k).map fun j => (lookK kvs j).getD d
  | .dicT kvs => (keysD k).map fun j => (lookT kvs j).getD d
  | _ => none
def vGet2 (fo fk fd : Ev) : Ev := fun δ => (fo δ).bind fun o => (fk δ).bind fun k => (fd δ).bind fun d => opGet o k d
def vGet1 (fo fk : Ev) : Ev := fun δ => (fo δ).bind fun o => (fk δ).bind fun k => opGet o k .non
section
variable {X : Cx} {Γ : CM} {M : List Mode} {o e f : Expr} {to te tf : TE} {fo fk fd : Ev} {mo mk md : Mode} {apos cpos : Pos}
theorem de_dget2 (hu : X.A.units + 64 < cLine) (ho : DE Γ X M o to fo mo) (hk : DE Γ X M e te fk mk) (hf : DE Γ X M f tf fd md) (hmk : okS mk = true := by rfl) (hmd : okS md = true := by rfl) (m : M2 X o "get" apos e f cpos := by exact ⟨rfl, rfl, rfl, rfl⟩) :
    DE Γ X M (.Call (.Attribute o "get" apos) [e, f] [] cpos) (tDGet2 to te tf) (vGet2 fo fk fd) .sh := by
  refine ⟨pe_dget2 (by omega) ho.pe hk.pe hf.pe m, fun S0 H0 S H σ δ Q d w ef k => ?_⟩
  obtain ⟨od, e1, e2⟩ := bind_some ef
  obtain ⟨kd, e3, e4⟩ := bind_some e2
  obtain ⟨dd, e5, e6⟩ := bind_some e4
  refine ho.snd S0 H0 S H σ δ _ od w e1 fun v S1 H1 x1 r1 _ => ?_
  have w1 := w.mono x1
  cases od with
  | dicK kvs =>
    obtain ⟨j, e7, rfl⟩ := map_some (show (keyD kd).map (fun j => (lookK kvs j).getD dd) = some d from e6)
    obtain ⟨a, vs, rfl, h, rk⟩ := r1.dicK x1.sh w1.h0
    refine ⟨a, rfl, .inl ⟨vs, .inl h⟩, (hk.snd.sh hmk) S0 H0 S1 H1 σ δ _ kd w1 e3 fun y S2 H2 x2 r2 _ => (hf.snd.sh hmd) S0 H0 S2 H2 σ δ _ dd (w1.mono x2) e5 fun z S3 H3 x3 r3 _ => ⟨valV vs j, ?_, ?_⟩⟩
    · exact dget_k (kvs := kvs) (Rep.mono (x3.ss.trans x3.sh) (show Rep X.K Γ S2 kd y from r2)) e7 (x3.hh _ _ (x2.hh _ _ h))
    · have hv := valV_look j (rk.mono (x2.ss.trans x3.ss))
      have xx := (x1.trans x2).trans x3
      cases q : lookK kvs j with
      | none => rw [q] at hv k; rw [hv]; exact k z S3 H3 xx r3 fun z => by cases z
      | some d' => rw [q] at hv k; obtain ⟨v', e8, r8⟩ := hv; rw [e8]; exact k v' S3 H3 xx r8 fun z => by cases z
  | dicT kvs =>
    obtain ⟨j, e7, rfl⟩ := map_some (show (keysD kd).map (fun j => (lookT kvs j).getD dd) = some d from e6)
    obtain ⟨a, vs, rfl, h, rk⟩ := r1.dicT x1.sh w1.h0
    refine ⟨a, rfl, .inr ⟨vs, .inl h⟩, (hk.snd.sh hmk) S0 H0 S1 H1 σ δ _ kd w1 e3 fun y S2 H2 x2 r2 _ => (hf.snd.sh hmd) S0 H0 S2 H2 σ δ _ dd (w1.mono x2) e5 fun z S3 H3 x3 r3 _ => ⟨valV vs j, ?_, ?_⟩⟩
    · exact dget_t (Rep.mono (x3.ss.trans x3.sh) (show Rep X.K Γ S2 kd y from r2)) e7 (x3.hh _ _ (x2.hh _ _ h))
    · have hv := valV_lookT j (rk.mono (x2.ss.trans x3.ss))
      have xx := (x1.trans x2).trans x3
      cases q : lookT kvs j with
      | none => rw [q] at hv k; rw [hv]; exact k z S3 H3 xx r3 fun z => by cases z
      | some d' => rw [q] at hv k; obtain ⟨v', e8, r8⟩ := hv; rw [e8]; exact k v' S3 H3 xx r8 fun z => by cases z
  | _ => cases e6
theorem de_dget1 (hu : X.A.units + 64 < cLine) (ho : DE Γ X M o to fo mo) (hk : DE Γ X M e te fk mk) (hmk : okS mk = true := by rfl) (m : M1 X o "get" apos e cpos := by exact ⟨rfl, rfl, rfl, rfl⟩) :
    DE Γ X M (.Call (.Attribute o "get" apos) [e] [] cpos) (tDGet1 to te) (vGet1 fo fk) .sh := by
  refine ⟨pe_dget1 (by omega) ho.pe hk.pe m, fun S0 H0 S H σ δ Q d w ef k => ?_⟩
  obtain ⟨od, e1, e2⟩ := bind_some ef
  obtain ⟨kd, e3, e6⟩ := bind_some e2
  refine ho.snd S0 H0 S H σ δ _ od w e1 fun v S1 H1 x1 r1 _ => ?_
  have w1 := w.mono x1
  cases od with
  | dicK kvs =>
    obtain ⟨j, e7, rfl⟩ := map_some (show (keyD kd).map (fun j => (lookK kvs j).getD .non) = some d from e6)
    obtain ⟨a, vs, rfl, h, rk⟩ := r1.dicK x1.sh w1.h0
    refine ⟨a, rfl, .inl ⟨vs, .inl h⟩, (hk.snd.sh hmk) S0 H0 S1 H1 σ δ _ kd w1 e3 fun y S2 H2 x2 r2 _ => ⟨valV vs j, ?_, ?_⟩⟩
    · exact dget_k (kvs := kvs) (Rep.mono x2.sh (show Rep X.K Γ S2 kd y from r2)) e7 (x2.hh _ _ h)
    · have hv := valV_look j (rk.mono x2.ss)
      have xx := x1.trans x2
      cases q : lookK kvs j with
      | none => rw [q] at hv k; rw [hv]; exact k .non S2 H2 xx rfl fun z => by cases z
      | some d' => rw [q] at hv k; obtain ⟨v', e8, r8⟩ := hv; rw [e8]; exact k v' S2 H2 xx r8 fun z => by cases z
  | dicT kvs =>
    obtain ⟨j, e7, rfl⟩ := map_some (show (keysD kd).map (fun j => (lookT kvs j).getD .non) = some d from e6)
    obtain ⟨a, vs, rfl, h, rk⟩ := r1.dicT x1.sh w1.h0
    refine ⟨a, rfl, .inr ⟨vs, .inl h⟩, (hk.snd.sh hmk) S0 H0 S1 H1 σ δ _ kd w1 e3 fun y S2 H2 x2 r2 _ => ⟨valV vs j, ?_, ?_⟩⟩
    · exact dget_t (Rep.mono x2.sh (show Rep X.K Γ S2 kd y from r2)) e7 (x2.hh _ _ h)
    · have hv := valV_lookT j (rk.mono x2.ss)
      have xx := x1.trans x2
      cases q : lookT kvs j with
      | none => rw [q] at hv k; rw [hv]; exact k .non S2 H2 xx rfl fun z => by cases z
      | some d' => rw [q] at hv k; obtain ⟨v', e8, r8⟩ := hv; rw [e8]; exact k v' S2 H2 xx r8 fun z => by cases z
  | _ => cases e6
end
/-! ### dict(pairs) -/
def pairsKD : List D → Option (List (Key × D))
  | [] => some []
  | .tup [k, v] :: ds => (keyD k).bind fun j => (pairsKD ds).map ((j, v) :: ·)
  | _ => none
def opDictP : List D → Option D
  | [.lst ds] => (pairsKD ds).map fun kvs => .dicK (mergeD [] kvs)
  | _ => none
theorem pairsKD_cons {d : D} {ds : List D} {kvs : List (Key × D)} (h : pairsKD (d :: ds) = some kvs) : ∃ k x j kvs', d = .tup [k, x] ∧ keyD k = some j ∧ pairsKD ds = some kvs' ∧ kvs = (j, x) :: kvs' := by
  unfold pairsKD at h
  split at h
  · rename_i q; cases q
  · rename_i k x ds' q
    cases q
    obtain ⟨j, e1, e2⟩ := bind_some h
    obtain ⟨kvs', e3, e4⟩ := map_some e2
    exact ⟨k, x, j, kvs', rfl, e1, e3, e4.symm⟩
  · cases h
section
variable {X : Cx} {Γ : CM} {K : PySem.W.Frag} {S H : Hp}
theorem RepL.pairsKD (sh : Same S H) : ∀ {ds : List D} {ws : List V} {kvs : List (Key × D)}, RepL K Γ S ds ws → pairsKD ds = some kvs → ∃ (ps : List Addr) (vs : List (Key × V)), ws = ps.map V.ref ∧ Paired (fun p (kv : Key × V) => SqT K H p [kV kv.1, kv.2]) ps vs ∧ RepK K Γ S kvs vs
  | [], _, _, r, e => by
    cases e
    cases (show _ = [] from r)
    exact ⟨[], [], rfl, .nil, rfl⟩
  | d :: ds, _, _, ⟨v, ws, e0, r, t⟩, e => by
    subst e0
    obtain ⟨k, x, j, kvs', rfl, e1, e3, rfl⟩ := pairsKD_cons e
    obtain ⟨ps, vs, rfl, hp, hr⟩ := RepL.pairsKD sh t e3
    obtain ⟨a, xs, rfl, hS, _, u, us, rfl, ru, y, ys, rfl, ry, rfl⟩ := r
    exact ⟨a :: ps, (j, y) :: vs, rfl, .cons (by rw [← ru.key e1]; exact SqT.of (sh _ _ hS)) hp, ⟨y, vs, rfl, ry, hr⟩⟩
theorem cd_dictP {m : Mode} (hm : okS m = true) (hc : X.calm = true) (hK : X.K = K := by rfl) : CD Γ X (.type "dict") (fun xs H Q => ∃ (a : Addr) (ps : List Addr) (kvs : List (Key × V)), xs = [.ref a] ∧ SqL K H a (ps.map V.ref) ∧ Paired (fun p kv => SqT K H p [kV kv.1, kv.2]) ps kvs ∧ ∀ p, H p = none → Q (.ref p) (upd H p (.dK (mergeK [] kvs)))) opDictP [.bo] m := by
  subst hK
  refine ⟨call_dictP hc, fun S H ds vs d Q sh r e k => ?_⟩
  match ds, e, r with
  | [.lst es], e, r =>
    obtain ⟨kvs, e1, rfl⟩ := map_some (show (pairsKD es).map (fun kvs => D.dicK (mergeD [] kvs)) = some d from e)
    obtain ⟨v, rfl, r1⟩ := ArgMs.get1 r
    obtain ⟨p, ws, rfl, hp, hl, rl⟩ := r1.lst sh (Same.refl _)
    obtain ⟨ps, vs, rfl, hpp, hr⟩ := RepL.pairsKD sh rl e1
    exact ⟨p, ps, vs, rfl, SqL.of hp, hpp, fun q hq => k.newK hm sh (hr.merge rfl) hq⟩
end
/-! ### list(text) -/
theorem call_listS {X : Cx} (hc : X.calm = true) : CallR X (.type "list") (fun xs H Q => ∃ x : Str, xs = [.str x] ∧ x.length ≤ sizeLine ∧ ∀ p, H p = none → Q (.ref p) (upd H p (.lst (x.cps.toList.map fun c => V.str ⟨#[c]⟩)))) := by
  intro pins s σ H xs us Q I r h
  obtain ⟨x, e, hz, q⟩ := h
  subst e
  obtain ⟨u, eu, rx⟩ := vals1 r
  subst eu
  obtain ⟨t, eu⟩ : ∃ t, u = Value.str x t := rx
  subst eu
  refine PySem.call_list_str (I.ok.hd hc) x t (fun h' tk acc' c' hkeep hS hacc => ?_) hz
  refine ⟨.ref s.heap.objs.size, upd H s.heap.objs.size (.lst (x.cps.toList.map fun c => V.str ⟨#[c]⟩)), I.laid hkeep (Nat.le_refl _) (show ObjOk X.prog X.w _ _ _ (.lst (x.cps.toList.map fun c => V.str ⟨#[c]⟩)) from ⟨?_, acc'.toList, c', ?_, ?_⟩), rfl, q _ (I.hok.fresh (Nat.le_refl _))⟩
  · rw [List.length_map]; show x.cps.toList.length ≤ _; rw [Array.length_toList]; exact hz
  · refine vals_of_at (by rw [List.length_map, Array.length_toList, Array.length_toList, hacc.1]) fun j y w h1 h2 => ?_
    obtain ⟨c, z, hcx, hw⟩ := hacc.2 j w (by rw [← Array.getElem?_toList]; exact h2)
    rw [List.getElem?_map, Array.getElem?_toList, hcx] at h1
    cases h1
    exact ⟨z, hw⟩
  · exact hS
def opListE : List D → Option D
  | [.str x] => some (.lst (signs x))
  | ds => opListD ds
theorem repL_signs {K : PySem.W.Frag} {Γ : CM} {S : Hp} : ∀ (cs : List Nat), RepL K Γ S (cs.map fun c => D.str ⟨#[c]⟩) (cs.map fun c => V.str ⟨#[c]⟩)
  | [] => rfl
  | c :: cs => ⟨_, _, rfl, ⟨rfl, by show 1 ≤ sizeLine; decide⟩, repL_signs cs⟩
theorem cd_listE {X : Cx} {Γ : CM} {K : PySem.W.Frag} {m : Mode} (hm : okS m = true) (hc : X.calm = true) (hK : X.K = K := by rfl) : CD Γ X (.type "list") (fun xs H Q => rListK K xs H Q ∨ ∃ x : Str, xs = [.str x] ∧ x.length ≤ sizeLine ∧ ∀ p, H p = none → Q (.ref p) (upd H p (.lst (x.cps.toList.map fun c => V.str ⟨#[c]⟩)))) opListE [.bo] m := by
  refine ⟨(cd_listD (Γ := Γ) hm hc hK).call.or (call_listS hc), fun S H ds vs d Q sh r e k => ?_⟩
  match ds, e, r with
  | [.str x], e, r =>
    cases e
    obtain ⟨rfl, hz⟩ := r.str1
    exact .inr ⟨x, rfl, hz, fun p hp => k.newL hm sh (by unfold signs; rw [List.length_map, Array.length_toList]; exact hz) (repL_signs _) hp⟩
  | [.lst a], e, r => exact .inl ((cd_listD (Γ := Γ) hm hc hK).snd S H _ vs d Q sh r e k)
  | [.tup a], e, r => exact .inl ((cd_listD (Γ := Γ) hm hc hK).snd S H _ vs d Q sh r e k)
  | [.dicK a], e, r => exact .inl ((cd_listD (Γ := Γ) hm hc hK).snd S H _ vs d Q sh r e k)
  | [.dicT a], e, r => exact .inl ((cd_listD (Γ := Γ) hm hc hK).snd S H _ vs d Q sh r e k)
end Dl
/-! x.pop(i), x.clear() as statements on an owned list. -/
namespace Dl
open PySem L2
section
variable {X : Cx} {Γ : CM} {E : WX} {rm : RM} {m m' : Mode} {M : List Mode} {e a b : Expr} {te ta tb : TE} {f g : Ev} {pos apos cpos : Pos} {K : PySem.W.Frag}
theorem RepL.erase {K : PySem.W.Frag} {S : Hp} {ds : List D} {vs : List V} (k : Nat) (r : RepL K Γ S ds vs) : RepL K Γ S (ds.eraseIdx k) (vs.eraseIdx k) := by
  rw [List.eraseIdx_eq_take_drop_succ, List.eraseIdx_eq_take_drop_succ]
  exact (r.take k).append (r.drop (k + 1))
def sPop (i : Nat) (f : Ev) : Sv := fun δ => (vVar i δ).bind fun l => match l with
  | .lst ds => (f δ).bind fun d => match d with
    | .int j => if -(2 ^ 63) ≤ j ∧ j < 2 ^ 63 then (ixN ds.length j).bind fun k => some (putL i δ (ds.eraseIdx k)) else none
    | _ => none
  | _ => none
theorem ds_pop {i : Nat} {x : Str} {p : Pos} (hM : md M i = .ow) (he : DE Γ X M e te f m) (hm : okS m = true := by rfl) (hN : X.N[i]? = some x := by rfl) (hv : Vis X.env.scope x := by first | exact Or.inl rfl | exact Or.inr (Or.inl rfl) | exact Or.inr (Or.inr rfl)) (hd : (x == ("__debug__" : Str)) = false := by decide)
    (hcd : (x == ("__classdict__" : Str)) = false := by decide) (hbase : attributeBase (.Name x p) "pop" X.env (eval (.Name x p) X.env) = eval (.Name x p) X.env := by rfl)
    (hfew : (((backTo cpos (starEach [e] X.env)).all (!·.1)) && ((backToKw cpos (keywordEach [] X.env)).all (·.1.isSome)) && decide (([e].length + ([] : List Keyword).length + if ([] : List Keyword).isEmpty = true then 0 else 1) < 30)) = true := by rfl) (hline : (apos.endLine == cpos.line) = true := by rfl)
    (h3 : starEach [e] X.env = (false, eval e X.env) :: starEach [] X.env := by rfl) (h4 : (backTo cpos (starEach [] X.env)).any (·.1) = false := by rfl) (hs : swapsWith (.Call (.Attribute (.Name x p) "pop" apos) [e] [] cpos) none pos.line X.env = pure false := by rfl) :
    DS Γ X E rm M (.Expr (.Call (.Attribute (.Name x p) "pop" apos) [e] [] cpos) pos) (tDrop (tBM X.K "list" rPopAt (tVar i) (tCons te tNil))) (sPop i f) M [] :=
  ⟨ps_expr (pe_bm PySem.F.plainAttrs_list PySem.F.slot_list_pop PySem.F.type_list_pop mt_popAt (pe_var hN hv hd hcd) (pa_cons he.pe pa_nil h3) hbase hfew hline h3 h4) hs, fun S0 H0 S H σ δ Dn o w ef k => by
    obtain ⟨l, e1, e2⟩ := bind_some ef
    have hl := vVar_some e1
    cases l with
    | lst ds =>
      obtain ⟨d, e3, e4⟩ := bind_some e2
      cases d with
      | int j =>
        have e4 : (if -(2 ^ 63) ≤ j ∧ j < 2 ^ 63 then (ixN ds.length j).bind fun k => some (putL i δ (ds.eraseIdx k)) else none) = some o := e4
        by_cases hb : -(2 ^ 63) ≤ j ∧ j < 2 ^ 63
        case neg => rw [if_neg hb] at e4; cases e4
        rw [if_pos hb] at e4
        have e5 := e4
        obtain ⟨q, e6, e7⟩ := bind_some e5
        cases e7
        obtain ⟨p', hp, hS, vs, hH, hz, rl⟩ := w.owned hM hl
        refine ⟨_, hp, .inl ⟨rfl, vs, SqL.of hH⟩, ?_⟩
        refine (he.snd.sh hm) S0 H0 S H σ δ _ _ w e3 fun v S1 H1 x1 r1 _ => ?_
        have r2 := rl.mono x1.ss
        have r1 : v = .int j := r1.int (w.mono x1).h0
        obtain ⟨s1, s2, _, _⟩ := ixN_seq e6
        have lq : q < vs.length := by rw [rl.length]; exact s2
        refine ⟨p', vs, j, q, vs[q], rfl, by rw [r1], x1.hh _ _ hH, hb.1, hb.2, by rw [rl.length]; exact s1, List.getElem?_eq_getElem lq, ?_⟩
        exact k S1 _ σ x1.ss ((w.mono x1).write hM hl hp ⟨_, upd_same, Nat.le_trans (List.length_eraseIdx_le ..) hz, r2.erase q⟩) Fr.refl
      | _ => cases e4
    | _ => cases e2⟩
def sClr (i : Nat) : Sv := fun δ => (vVar i δ).bind fun l => match l with
  | .lst _ => some (putL i δ [])
  | _ => none
theorem ds_clear {i : Nat} {x : Str} {p : Pos} (hM : md M i = .ow) (hN : X.N[i]? = some x := by rfl) (hv : Vis X.env.scope x := by first | exact Or.inl rfl | exact Or.inr (Or.inl rfl) | exact Or.inr (Or.inr rfl)) (hd : (x == ("__debug__" : Str)) = false := by decide)
    (hcd : (x == ("__classdict__" : Str)) = false := by decide) (hbase : attributeBase (.Name x p) "clear" X.env (eval (.Name x p) X.env) = eval (.Name x p) X.env := by rfl) (hline : (apos.endLine == cpos.line) = true := by rfl)
    (hs : swapsWith (.Call (.Attribute (.Name x p) "clear" apos) [] [] cpos) none pos.line X.env = pure false := by rfl) :
    DS Γ X E rm M (.Expr (.Call (.Attribute (.Name x p) "clear" apos) [] [] cpos) pos) (tDrop (tBM0 X.K "list" rClear (tVar i))) (sClr i) M [] :=
  ⟨ps_expr (pe_bm0 PySem.F.plainAttrs_list PySem.F.slot_list_clear PySem.F.type_list_clear mt_clear (pe_var hN hv hd hcd) hbase hline) hs, fun S0 H0 S H σ δ Dn o w ef k => by
    obtain ⟨l, e1, e2⟩ := bind_some ef
    have hl := vVar_some e1
    cases l with
    | lst ds =>
      cases e2
      obtain ⟨p', hp, hS, vs, hH, hz, rl⟩ := w.owned hM hl
      refine ⟨_, hp, .inl ⟨rfl, vs, SqL.of hH⟩, p', vs, rfl, rfl, hH, ?_⟩
      exact k S _ σ (Same.refl _) (w.write hM hl hp ⟨_, upd_same, Nat.zero_le _, rfl⟩) Fr.refl
    | _ => cases e2⟩
end
end Dl
/-! sorted of texts, any number. -/
namespace Dl
open PySem L2 PyProof.Rows PySem.Spec
def rSortedSA (K : PySem.W.Frag) : List V → Hp → VK → Prop := fun vs H Q => ∃ (a : Addr) (xs : List Str), vs = [V.ref a] ∧ SqL K H a (xs.map V.str) ∧
  ∀ (ys : List Str) (p : Addr), ys.Perm xs → sortedS ys = true → H p = none → Q (.ref p) (upd H p (.lst (ys.map V.str)))
theorem cr_sortedSA {X : Cx} : CallR X (.builtin "sorted") (rSortedSA X.K) := by
  intro pins s σ H vs us Q I r h
  obtain ⟨a, xs, rfl, hs, q⟩ := h
  obtain ⟨its, rv, hl, hz⟩ := I.list hs
  rw [Vals.ref1 r]
  have hlen0 := rv.length
  rw [List.length_map] at hlen0
  have hz' : xs.length ≤ sizeLine := by rw [List.length_map] at hz; exact hz
  refine PyProof.Rows.sorted_strsAny hl.isList rv.strs (by rw [← hlen0]; exact hz') fun out ys h1 h2 h3 => ?_
  obtain ⟨ep, he'⟩ := PyProof.Rows.sortedAll_at s.heap its out
  have hlen : (ys.map V.str).length ≤ sizeLine := by rw [List.length_map, h2.length_eq]; exact hz'
  exact ⟨.ref _, upd H (s.heap.objs.size + 1) (.lst (ys.map V.str)), I.laid (t' := s.toks) (fun _ _ => PyProof.Rows.sortedAll_old) (Nat.le_succ _) ⟨hlen, out.toList, ep, vals_of_strs h1, he'⟩, rfl, q ys _ h2 h3 (I.hok.fresh (Nat.le_succ _))⟩
def leS (a b : Str) : Bool := decide (a.cps.toList ≤ b.cps.toList)
def sortS (xs : List Str) : List Str := xs.mergeSort leS
theorem leS_trans (a b c : Str) (h1 : leS a b = true) (h2 : leS b c = true) : leS a c = true :=
  decide_eq_true (List.le_trans (of_decide_eq_true h1) (of_decide_eq_true h2))
theorem leS_total (a b : Str) : (leS a b || leS b a) = true := by
  rcases List.le_total a.cps.toList b.cps.toList with h | h
  · rw [show leS a b = true from decide_eq_true h]; rfl
  · rw [show leS b a = true from decide_eq_true h, Bool.or_true]
theorem leS_anti {a b : Str} (h1 : leS a b = true) (h2 : leS b a = true) : a = b := by
  have := List.le_antisymm (of_decide_eq_true h1) (of_decide_eq_true h2)
  cases a with
  | mk x => cases b with
    | mk y => exact congrArg Str.mk (by apply Array.ext'; exact this)
theorem sortS_perm (xs : List Str) : (sortS xs).Perm xs := List.mergeSort_perm xs _
theorem sortS_le (xs : List Str) : (sortS xs).Pairwise fun a b => leS a b = true := List.pairwise_mergeSort leS_trans leS_total xs
theorem sortS_uniq {a b : List Str} (h : a.Perm b) (p : a.Pairwise fun a b => leS a b = true) (q : b.Pairwise fun a b => leS a b = true) : a = b := h.eq_of_pairwise (fun x y _ _ h1 h2 => leS_anti h1 h2) p q
theorem leS_of {a b : Str} (h : (!ltCps b.cps.toList a.cps.toList) = true) : leS a b = true := by
  rw [ltCps_eq] at h
  have h : ¬ b.cps.toList < a.cps.toList := by simpa using h
  exact decide_eq_true (List.not_lt.mp h)
theorem rising_pair : ∀ {l : List Str} {p : Str}, risingS p l = true → (p :: l).Pairwise fun a b => leS a b = true
  | [], p, _ => List.pairwise_singleton _ _
  | x :: l, p, h => by
    unfold risingS at h
    rw [Bool.and_eq_true] at h
    have ih := rising_pair h.2
    have px := leS_of h.1
    refine List.pairwise_cons.mpr ⟨fun y hy => ?_, ih⟩
    rcases List.mem_cons.mp hy with rfl | hy
    · exact px
    · exact leS_trans _ _ _ px ((List.pairwise_cons.mp ih).1 y hy)
theorem sorted_pair {l : List Str} (h : sortedS l = true) : l.Pairwise fun a b => leS a b = true := by
  cases l with
  | nil => exact .nil
  | cons x l => exact rising_pair h
def opSortedS : List D → Option D
  | [.lst ds] => (strsOf ds).map fun xs => .lst ((sortS xs).map D.str)
  | _ => none
theorem RepL.strsMap {K : PySem.W.Frag} {Γ : CM} {S : Hp} : ∀ {xs : List Str}, (∀ x ∈ xs, x.length ≤ sizeLine) → RepL K Γ S (xs.map D.str) (xs.map V.str)
  | [], _ => rfl
  | x :: xs, h => ⟨_, _, rfl, ⟨rfl, h x List.mem_cons_self⟩, RepL.strsMap fun y hy => h y (List.mem_cons_of_mem _ hy)⟩
theorem RepL.strsLen {K : PySem.W.Frag} {Γ : CM} {S : Hp} : ∀ {ds : List D} {vs : List V} {xs : List Str}, RepL K Γ S ds vs → Dl.strsOf ds = some xs → ∀ x ∈ xs, x.length ≤ sizeLine
  | [], _, _, _, e, x, hx => by cases e; cases hx
  | d :: ds, _, _, ⟨v, ws, e0, r, t⟩, e, x, hx => by
    subst e0
    cases d with
    | str y =>
      obtain ⟨ys, e1, rfl⟩ := map_some (show (Dl.strsOf ds).map (y :: ·) = _ from e)
      rcases List.mem_cons.mp hx with rfl | hx
      · exact r.2
      · exact RepL.strsLen t e1 x hx
    | _ => cases e
theorem cd_sortedT {X : Cx} {Γ : CM} {K : PySem.W.Frag} (hK : X.K = K := by rfl) : CD Γ X (.builtin "sorted") (rSortedSA K) opSortedS [.bo] .ow := by
  subst hK
  refine ⟨cr_sortedSA, fun S H ds vs d Q sh r e k => ?_⟩
  match ds, e, r with
  | [.lst es], e, r =>
    obtain ⟨xs, e1, rfl⟩ := map_some (show (strsOf es).map (fun xs => D.lst ((sortS xs).map D.str)) = some d from e)
    obtain ⟨v, rfl, r1⟩ := ArgMs.get1 r
    obtain ⟨p, ws, ev, hp, hl, rl⟩ := r1.lst sh (Same.refl _)
    have ew := rl.strsOf e1
    refine ⟨p, xs, by rw [ev], by rw [← ew]; exact SqL.of hp, fun ys q hperm hle hq => ?_⟩
    have es' : ys = sortS xs := sortS_uniq (hperm.trans (sortS_perm xs).symm) (sorted_pair hle) (sortS_le xs)
    subst es'
    have l1 : xs.length = es.length := by have := rl.length; rw [ew, List.length_map] at this; exact this
    refine k.newL rfl sh (by rw [List.length_map, (sortS_perm xs).length_eq, l1]; exact hl) (RepL.strsMap fun x hx => RepL.strsLen rl e1 x ((sortS_perm xs).mem_iff.mp hx)) hq
end Dl
/-! xs.index(y), texts. -/
namespace Dl
open PySem L2
def opIndex (l y : D) : Option D := match l with
  | .lst ds => match y with
    | .str z => (strsOf ds).bind fun xs => (xs.findIdx? fun x => decide (x = z)).map fun (j : Nat) => D.int (j : Int)
    | _ => none
  | _ => none
def vIndex (fo fe : Ev) : Ev := fun δ => (fo δ).bind fun l => (fe δ).bind fun y => opIndex l y
section
variable {X : Cx} {Γ : CM} {M : List Mode} {o e : Expr} {to te : TE} {fo fe : Ev} {mo me : Mode} {apos cpos : Pos}
theorem de_index (K : PySem.W.Frag) (ho : DE Γ X M o to fo mo) (he : DE Γ X M e te fe me) (hme : okS me = true := by rfl)
    (h1 : attributeBase o "index" X.env (eval o X.env) = eval o X.env := by rfl)
    (h2 : (((backTo cpos (starEach [e] X.env)).all (!·.1)) && ((backToKw cpos (keywordEach [] X.env)).all (·.1.isSome)) && decide (([e].length + ([] : List Keyword).length + if ([] : List Keyword).isEmpty = true then 0 else 1) < 30)) = true := by rfl) (h3 : (apos.endLine == cpos.line) = true := by rfl)
    (h4 : starEach [e] X.env = (false, eval e X.env) :: starEach [] X.env := by rfl) (h5 : (backTo cpos (starEach [] X.env)).any (·.1) = false := by rfl) (hK : X.K = K := by rfl) :
    DE Γ X M (.Call (.Attribute o "index" apos) [e] [] cpos) (tBM K "list" (rIndex K) to (tCons te tNil)) (vIndex fo fe) .sh := by
  subst hK
  refine ⟨pe_bm PySem.F.plainAttrs_list PySem.F.slot_list_index PySem.F.type_list_index mt_index ho.pe (pa_cons he.pe pa_nil h4) h1 h2 h3 h4 h5, fun S0 H0 S H σ δ Q d w ef k => ?_⟩
  obtain ⟨l, e1, e2⟩ := bind_some ef
  obtain ⟨y, e3, e4⟩ := bind_some e2
  cases l with
  | lst ds =>
    cases y with
    | str z =>
      obtain ⟨xs, e5, e6⟩ := bind_some (show (strsOf ds).bind (fun xs => (xs.findIdx? fun x => decide (x = z)).map fun (j : Nat) => D.int (j : Int)) = some d from e4)
      obtain ⟨j, e7, rfl⟩ := map_some e6
      refine ho.snd S0 H0 S H σ δ _ _ w e1 fun v S1 H1 x1 r1 _ => ?_
      have w1 := w.mono x1
      obtain ⟨p, vs, rfl, hp, hl, rl⟩ := r1.lst x1.sh w1.h0
      have ew := rl.strsOf e5
      refine ⟨.inl ⟨rfl, vs, SqL.of hp⟩, ?_⟩
      refine (he.snd.sh hme) S0 H0 S1 H1 σ δ _ _ w1 e3 fun u S2 H2 x2 r2 _ => ?_
      have eu : u = .str z := (r2.str (w1.mono x2).h0).1
      obtain ⟨hj, hz, hno⟩ := List.findIdx?_eq_some_iff_getElem.mp e7
      refine ⟨p, xs.map V.str, .str z, j, .str xs[j], rfl, by rw [eu], by rw [← ew]; exact SqL.of (x2.hh _ _ hp), rfl, ?_, ?_, ?_, fun m z' hm hz' => ?_, ?_⟩
      · rw [List.all_map, List.all_eq_true]; intro x _; rfl
      · rw [List.getElem?_map, List.getElem?_eq_getElem hj]; rfl
      · have := of_decide_eq_true hz
        rw [this]; simp [eqV]
      · rw [List.getElem?_map, List.getElem?_eq_getElem (Nat.lt_trans hm hj)] at hz'
        cases hz'
        have : ¬ (decide (xs[m] = z) = true) := by simpa using hno m hm
        have : ¬ xs[m] = z := by simpa using this
        simp [eqV, this]
      · exact k (.int (j : Int)) S2 H2 (x1.trans x2) rfl fun q => by cases q
    | _ => cases e4
  | _ => cases e4
end
end Dl
/-! != of things of any kind, the empty dict among them. -/
namespace Dl
open PySem L2
def isE0 : D → Bool
  | .dicK [] => true
  | _ => false
def opNeX (a b : D) : Option D := if (isE0 a && isE0 b) = true then some (.bl false) else opNe a b
theorem isE0_eq {a : D} (h : isE0 a = true) : a = .dicK [] := by
  cases a with
  | dicK kvs => cases kvs with
    | nil => rfl
    | cons p r => cases h
  | _ => cases h
theorem od_neX {X : Cx} {Γ : CM} (K : PySem.W.Frag) (hu : X.A.units + 64 < cLine) (hK : X.K = K := by rfl) : OpD Γ X (compareOp .NotEq) (fun x y H Q => rNeP K Γ x y H Q ∨ rNeDA x y H Q) opNeX .sh := by
  subst hK
  refine ⟨opR_or (op_neP hu) (op_ne_dictA (by omega)), fun H0 S H ma mb a b d x y Q sh h0 ra rb e k => ?_⟩
  unfold opNeX at e
  by_cases c : (isE0 a && isE0 b) = true
  · rw [if_pos c] at e
    cases e
    rw [Bool.and_eq_true] at c
    have c1 := isE0_eq c.1
    have c2 := isE0_eq c.2
    subst c1 c2
    obtain ⟨p, vs, rfl, h1, r1⟩ := ra.full sh h0
    obtain ⟨q, ws, rfl, h2, r2⟩ := rb.full sh h0
    have r1 : vs = [] := r1
    have r2 : ws = [] := r2
    subst r1 r2
    exact .inr ⟨p, q, [], [], rfl, rfl, h1, h2, rfl, (fun p hp => by cases hp), k.flat sh rfl⟩
  · rw [if_neg c] at e
    exact .inl ((od_ne hu).snd H0 S H ma mb a b d x y Q sh h0 ra rb e k)
end Dl
set_option maxHeartbeats 1000000
/-! exceptions: what may be raised, calls that may raise, try .. except X as n, defs called in an except suite. -/
namespace Dl
open PySem L2 PyProof.Rows
inductive Res where
  | ok (d : D) | ex (c : Str) (fs : List (Str × D))
abbrev Xv := Env → Option Res
def ResK (K : PySem.W.Frag) (Γ : CM) (H0 S H : Hp) (m : Mode) (Q : VK) (E : XK) : Res → Prop
  | .ok d => Kont K Γ H0 S H m d Q
  | .ex c fs => ∀ cls dd S' H', Ext S H S' H' → RepX K Γ S' H' c fs cls dd → E cls dd H'
def SndX (K : PySem.W.Frag) (Γ : CM) (E : WX) (M : List Mode) (t : TE) (f : Xv) (m : Mode) : Prop :=
  ∀ S0 H0 S H σ δ Q r, Wd K Γ S0 H0 S H σ M δ → f δ = some r → ResK K Γ H0 S H m Q (fun cls dd H' => E cls dd σ H') r → t σ H Q
structure DX (Γ : CM) (X : Cx) (E : WX) (M : List Mode) (e : Expr) (t : TE) (f : Xv) (m : Mode) : Prop where
  pe : PE X e t
  snd : SndX X.K Γ E M t f m
/-- where nothing is raised -/
def okV (f : Xv) : Ev := fun δ => (f δ).bind fun r => match r with | .ok d => some d | .ex _ _ => none
theorem okV_some {f : Xv} {δ : Env} {d : D} (h : okV f δ = some d) : f δ = some (.ok d) := by
  obtain ⟨r, e1, e2⟩ := bind_some h
  cases r with
  | ok x => cases e2; exact e1
  | ex c fs => cases e2
section
variable {X : Cx} {Γ : CM} {E : WX} {rm : RM} {M M1 M2 : List Mode} {e : Expr} {es : List Expr} {te : TE} {tr : TA} {f : Xv} {fr : Env → Option (List D)} {m : Mode} {st : Stmt} {pos : Pos} {ws : List Nat} {tS : TS} {s : Sv}
theorem DX.toE (h : DX Γ X E M e te f m) : DE Γ X M e te (okV f) m := ⟨h.pe, fun S0 H0 S H σ δ Q d w ef k => h.snd S0 H0 S H σ δ Q (.ok d) w (okV_some ef) k⟩
/-- a statement around an expression that may raise -/
def sX (f : Xv) (s : Sv) : Sv := fun δ => (f δ).bind fun r => match r with | .ok _ => s δ | .ex c fs => some (.ex c fs)
theorem DS.x (hx : DX Γ X E M e te f m) (h : DS Γ X E rm M st tS s M1 ws) (hB : ∀ Dn σ H, (∀ Q, te σ H Q) → tS Dn σ H := by exact fun _ _ _ h => h _) (hxo : rm.xo = [] := by rfl) : DS Γ X E rm M st tS (sX f s) M1 ws := ⟨h.ps, fun S0 H0 S H σ δ Dn o w ef k => by
  obtain ⟨r, e1, e2⟩ := bind_some ef
  cases r with
  | ok d => exact h.snd S0 H0 S H σ δ Dn o w e2 k
  | ex c fs =>
    cases e2
    refine hB Dn σ H fun Q => hx.snd S0 H0 S H σ δ Q _ w e1 fun cls dd S' H' x r => ?_
    exact k cls dd S' H' σ x.ss (w.mono x).ext Fr.refl (by rw [hxo]; exact r)⟩
theorem DX.sh (h : DX Γ X E M e te f m) (hm : okS m = true := by rfl) : DX Γ X E M e te f .sh := ⟨h.pe, fun S0 H0 S H σ δ Q r w ef k => by
  cases r with
  | ex c fs => exact h.snd S0 H0 S H σ δ Q _ w ef k
  | ok d =>
    have : SndE X.K Γ M te (okV f) .sh := SndE.sh (fun S0 H0 S H σ δ Q d w ef k => h.snd S0 H0 S H σ δ Q (.ok d) w (okV_some ef) k) hm
    exact this S0 H0 S H σ δ Q d w (by unfold okV; rw [ef]; rfl) k⟩
theorem ds_exprX (he : DX Γ X E M e te f m) (hs : swapsWith e none pos.line X.env = pure false := by rfl) (hxo : rm.xo = [] := by rfl) : DS Γ X E rm M (.Expr e pos) (tDrop te) (sX f (sExpr (okV f))) M [] := DS.x he (ds_expr he.toE hs) (hxo := hxo)
theorem ds_retX (he : DX Γ X E M e te f m) : DS Γ X E ⟨m, [], []⟩ M (.Return (some e) pos) (tRet te) (sX f (sRet (okV f))) M1 [] := DS.x he (ds_ret he.toE)
theorem ds_setX {i : Nat} {x : Str} {pos' : Pos} (hN : X.N.Nodup) (he : DX Γ X E M e te f m) (hM : M.set i m = M1 := by rfl) (hi : X.N[i]? = some x := by rfl) (hx : Loc X.env.scope x := by first | exact Or.inl rfl | exact Or.inr rfl) (hl : i < M.length := by decide) (hm : okS m = true ∨ m = .bo := by first | exact Or.inl rfl | exact Or.inr rfl) (hs : swapsWith e (some (.Name x pos')) pos.line X.env = pure false := by rfl) (hf : X.fn x = true ∨ X.env.scope.names.lookup x = some .local := by first | exact .inl rfl | exact .inr rfl | assumption) (hxo : rm.xo = [] := by rfl) :
    DS Γ X E rm M (.Assign [.Name x pos'] e pos) (tAsg te (gName i)) (sX f (sSet i (okV f))) M1 [i] := DS.x he (ds_set hN he.toE hM hi hx hl hm hs hf) (hxo := hxo)
/-! ### calls that may raise -/
def spX (K : PySem.W.Frag) (Γ : CM) (pm : List Mode) (rm : Mode) (den : List D → Option Res) : Sp := fun vs H Q E =>
  ∃ S ds r, Same S H ∧ ArgMs K Γ S H pm ds vs ∧ den ds = some r ∧ ResK K Γ H S H rm Q E r
def xC1 (den : List D → Option Res) (f : Env → Option (List D)) : Xv := fun δ => (f δ).bind den
theorem ResK.up {K : PySem.W.Frag} {S H S1 H1 H2 : Hp} {Q : VK} {E : XK} {r : Res} (k : ResK K Γ H2 S H m Q E r) (x : Ext S H S1 H1) (hm : okS m = true) : ResK K Γ H1 S1 H1 m Q E r := by
  cases r with
  | ok d => exact (Kont.ext k x).h0 hm
  | ex c fs => exact fun cls dd S' H' x' r => k cls dd S' H' (x.trans x') r
theorem dx_callD {x qual : Str} {st : Stmt} {ps : List Str} {k : Nat} {p : Pos} {pm : List Mode} {den : List D → Option Res} (T : Dfn X.K X.mg x qual st ps) (F : FnOk X.prog X.w X.K X.mg X.base (L2.CX X.prog X.w) k T.f T.fd ps (spX X.K Γ pm m den)) (hr : Room k X.A) (tk : Takes X E)
    (ha : DAr Γ X M (e :: es) tr fr pm) (hg : Gl X x := by rfl) (hm : okS m = true := by rfl) (h2 : (x == ("__debug__" : Str)) = false := by decide) (h3 : starEach (e :: es) X.env = (false, eval e X.env) :: starEach es X.env := by rfl) (h4 : (backTo pos (starEach es X.env)).any (·.1) = false := by rfl) :
    DX Γ X E M (.Call (.Name x p) (e :: es) [] pos) (tCallS (spX X.K Γ pm m den) (WE E) tr) (xC1 den fr) m :=
  ⟨pe_callS F hr hg T.gl T.fn.kp T.bd (fun σ => passAt tk σ) ha.pa h2 h3 h4, fun S0 H0 S H σ δ Q r w ef k => by
    obtain ⟨ds, e1, e2⟩ := bind_some ef
    refine ha.snd S0 H0 S H σ δ _ ds w e1 fun vs S1 H1 x1 r1 => ?_
    exact ⟨S1, ds, r, x1.sh, r1, e2, k.up x1 hm⟩⟩
theorem dx_callDK (K : PySem.W.Frag) {mg : Str → Option Value} {x qual : Str} {st : Stmt} {ps : List Str} {k : Nat} {p : Pos} {pm : List Mode} {den : List D → Option Res} (T : Dfn K mg x qual st ps) (F : FnOk X.prog X.w K mg X.base (L2.CX X.prog X.w) k T.f T.fd ps (spX K Γ pm m den)) (hr : Room k X.A) (tk : Takes X E)
    (ha : DAr Γ X M (e :: es) tr fr pm) (hg : Gl X x := by rfl) (hm : okS m = true := by rfl) (h2 : (x == ("__debug__" : Str)) = false := by decide) (h3 : starEach (e :: es) X.env = (false, eval e X.env) :: starEach es X.env := by rfl) (h4 : (backTo pos (starEach es X.env)).any (·.1) = false := by rfl) (hK : X.K = K := by rfl) (hmg : X.mg = mg := by rfl) :
    DX Γ X E M (.Call (.Name x p) (e :: es) [] pos) (tCallS (spX K Γ pm m den) (WE E) tr) (xC1 den fr) m := by subst hK hmg; exact dx_callD T F hr tk ha hg hm h2 h3 h4
/-! ### raise -/
structure ExcF (K : PySem.W.Frag) (mg : Str → Option Value) (x : Str) (C : Addr) : Prop where
  gl : mg x = some (.ref C)
  ex : PySem.W.excIn K C [.type "ValueError", .type "Exception", .type "BaseException", .type "object"] "ValueError.__new__" = true
  kp : PySem.W.keepIn K (.ref C) = true
  bs : PySem.W.subIn K (.ref C) (.type "BaseException") = some true
  ty : PySem.W.typeIn K (.ref C) = some (.type "type")
def sRaise (c : Str) : Sv := fun _ => some (.ex c [])
theorem ds_raise {x msg : Str} {C : Addr} {j : Nat} {p p2 pos' : Pos} (T : ExcF X.K X.mg x C) (hΓ : Γ x = some C) (tk : Takes X E) (hc : X.calm = true := by rfl) (hg : Gl X x := by rfl) (hdb : (x == ("__debug__" : Str)) = false := by decide) (hxo : rm.xo = [] := by rfl) :
    DS Γ X E rm M (.Raise (some (.Call (.Name x p) [.Constant (.str msg) j p2] [] pos')) none pos) (fun _ σ H => E (.ref C) none σ H) (sRaise x) M1 [] :=
  ⟨ps_raise hc tk (pmk_own PySem.F.excBase_ValueError T.ex T.gl T.kp (raises_own T.bs T.ty) hg hdb), fun S0 H0 S H σ δ Dn o w ef k => by
    cases ef
    exact k (.ref C) none S H σ (Same.refl _) w.ext Fr.refl (by rw [hxo]; exact ⟨C, hΓ, rfl, .inl ⟨rfl, rfl⟩⟩)⟩
end
/-! ### a def that may raise -/
def denX (n np : Nat) (rm : Mode) (s : Sv) : List D → Option Res := fun ds => if ds.length = np then (s (ds.map some ++ List.replicate (n - np) none)).bind fun o => match o with
  | .rt d => some (.ok d)
  | .nx _ => if rm = .sh then some (.ok .non) else none
  | .ex c fs => some (.ex c fs)
  else none
section
variable {P : Program} {w : World} {K : PySem.W.Frag} {mg : Str → Option Value} {base : Heap} {Γ : CM}
theorem fn_okX {x qual : Str} {st : Stmt} {f : Addr} {fd : FuncData} {N ps : List Str} {k : Nat} {pm : List Mode} {rm : Mode} {s : Sv} {M' : List Mode} (F : Fun K x qual st f fd) (S : FnScope N ps (defScope st)) (hl : pm.length = ps.length) (hp : pm.all (fun m => m == .sh || m == .bo) = true) {M0 : List Mode} (hM : initM N.length pm = M0) {n np : Nat} (hn : N.length = n) (hnp : ps.length = np)
    (hbody : ∀ (cdv : Value) (A : Around) (outer : List PySem.Env) (s0 : Shared) (H : Hp) (E : XK), Room k (A.deeper (PyProof.Rows.envOfC qual (defScope st) s0.heap.objs.size f cdv)) →
      ∃ t ws, DSs Γ (cxOf (L2.CX P w) P w K mg base N qual (defScope st) f cdv A outer s0 H E) (fun cls d _ H' => E cls d H') ⟨rm, [], []⟩ M0 (defBody st) t s M' ws) : FnOk P w K mg base (L2.CX P w) (k + 1) f fd ps (spX K Γ pm rm (denX n np rm s)) := by
  subst hM hn hnp
  refine F.okX S (fun vs H Q E h => ?_) (fun cdv A outer s0 H vs Q E hr h => ?_)
  · obtain ⟨S1, ds, r, _, ra, _⟩ := h
    rw [ra.len.1, hl]
  · obtain ⟨S1, ds, r, sh, ra, ed, kk⟩ := h
    obtain ⟨t, ws, hb⟩ := hbody cdv A outer s0 H E hr
    refine ⟨t, hb.pss, ?_⟩
    unfold denX at ed
    have hds : ds.length = ps.length := ra.len.2.trans hl
    rw [if_pos hds] at ed
    obtain ⟨o, e1, e2⟩ := bind_some ed
    rw [← hl] at e1
    refine hb.snd S1 H S1 H _ _ _ o (Wd.begin sh ra hp) e1 ?_
    cases o with
    | nx δ =>
      have e2 : (if rm = .sh then some (Res.ok D.non) else none) = some r := e2
      obtain ⟨c, rfl⟩ := ite_some e2
      subst c
      exact fun S2 H2 σ2 s2 w2 _ => kk .non S2 H2 w2.ext rfl fun z => by cases z
    | rt d =>
      cases e2
      exact fun v S2 H2 σ2 _ x2 _ r2 => kk v S2 H2 x2 r2.1 r2.2
    | ex c fs =>
      cases e2
      exact fun cls dd S2 H2 σ2 s2 x2 _ rx => kk cls dd S2 H2 x2 rx
theorem takesX {qual : Str} {scope : Scope} {N : List Str} {f : Addr} {cdv : Value} {A : Around} {outer : List PySem.Env} {s0 : Shared} {H : Hp} {E : XK} : Takes (cxOf (L2.CX P w) P w K mg base N qual scope f cdv A outer s0 H E) (fun cls d _ H' => E cls d H') := takes_of rfl rfl rfl rfl
theorem ownX {qual : Str} {scope : Scope} {N : List Str} {f : Addr} {cdv : Value} {A : Around} {outer : List PySem.Env} {s0 : Shared} {H : Hp} {E : XK} : PassesOwn (model P w) (cxOf (L2.CX P w) P w K mg base N qual scope f cdv A outer s0 H E).A (cxOf (L2.CX P w) P w K mg base N qual scope f cdv A outer s0 H E).env (cxOf (L2.CX P w) P w K mg base N qual scope f cdv A outer s0 H E).xe := passes_of rfl
end
/-! ### try: body, except X as n: suite -/
open Classical in
/-- a suite's outcome, whatever the exception's address is -/
noncomputable def allA (g : Addr → Option Out) : Option Out := if ∀ a, g a = g 0 then g 0 else none
theorem allA_some {g : Addr → Option Out} {o : Out} (h : allA g = some o) (a : Addr) : g a = some o := by
  unfold allA at h
  split at h
  · rename_i q; rw [q a]; exact h
  · cases h
theorem allA_of {g : Addr → Option Out} {o : Option Out} (h : ∀ a, g a = o) : allA g = o := by
  unfold allA
  rw [if_pos (fun a => (h a).trans (h 0).symm)]
  exact h 0
def goneO (i : Nat) : Out → Option Out
  | .nx δ => some (.nx (δ.set i none))
  | .rt d => some (.rt d)
  | .ex _ _ => none
noncomputable def sTryAs (i : Nat) (ct : Str → Option Bool) (ws : List Nat) (sb : Sv) (ss : Addr → Str → Sv) : Sv := fun δ => (sb δ).bind fun o => match o with
  | .ex c fs => if fs.isEmpty = true then (ct c).bind fun b => if b = true then (allA fun a => (ss a c ((wipeE δ ws).set i (some (.exc a c)))).bind (goneO i)) else some (.ex c fs) else none
  | o => some o
theorem pss_of {X : Cx} {st : List Stmt} {t : TS} (h : ∀ D σ H, t D σ H → ∃ t', PSs X st t' ∧ t' D σ H) : PSs X st t := ⟨fun pins s σ H D I q => by
  obtain ⟨t', h1, h2⟩ := h D σ H q
  exact h1.run pins s σ H D I h2⟩
section
variable {X : Cx} {Γ : CM} {E : WX} {rm : RM} {M M1 : List Mode} {n x : Str} {i : Nat} {body suite : List Stmt} {b₀ : Stmt} {np pos pos' : Pos} {tb : WX → TS} {sb : Sv} {ss : Addr → Str → Sv} {wb ws wu wr : List Nat} {Cc : Addr} {ct : Str → Option Bool}
/-- behind an exception: the slots that the body does not write, but the owned ones -/
theorem Wd.after {K : PySem.W.Frag} {S0 H0 S H S' H' : Hp} {σ σ' : L2.St} {δ : Env} (w : Wd K Γ S0 H0 S H σ M δ) (ss : Same S S') (x : Ext S0 H0 S' H') (fr : Fr wb σ σ') (hw : ∀ j ∈ wb, j ∈ ws) (ho : ∀ j, md M j = .ow → j ∈ ws) : Wd K Γ S0 H0 S' H' σ' M (wipeE δ ws) := by
  have own : ∀ j d, (wipeE δ ws)[j]? = some (some d) → md M j ≠ .ow := fun j d h z => (wipeE_some h).2 (ho j z)
  refine ⟨x, by rw [wipeE_len, fr.1, w.len], fun j d h => ?_, fun j d a h m => (own j d h m).elim, fun j j' d d' a b p h h' m => (own j d h m).elim, w.nord⟩
  obtain ⟨h1, h2⟩ := wipeE_some h
  obtain ⟨v, hv, r⟩ := w.slot j d h1
  refine ⟨v, (fr.2 j fun z => h2 (hw j z)).trans hv, ?_⟩
  have no := own j d h
  have nr := w.nord j
  generalize md M j = mm at r no nr
  cases mm with
  | sh => exact Rep.mono ss r
  | bo =>
    rcases r with r | ⟨a, ev, t⟩
    · exact .inl (Rep.mono ss r)
    · exact .inr ⟨a, ev, t.mono ss fun _ _ q => q⟩
  | rd => exact (nr rfl).elim
  | ow => exact (no rfl).elim
theorem ds_tryAs (hN : X.N.Nodup) (hc : Names X x (.ref Cc)) (tk : Takes X E)
    (hct : ∀ c b C, ct c = some b → Γ c = some C → PySem.W.exmOne X.K (.ref C) (.ref Cc) = some b)
    (hb : ∀ (W : WX) (pn : List (Addr × Obj)) (xe : Value → Shared → Prop), Takes (X.tr pn xe) W → PassesOwn (model X.prog X.w) X.A X.env xe → DSs Γ (X.tr pn xe) W ⟨rm.m, rm.io, []⟩ M body (tb W) sb M1 wb)
    (hsu : ∀ (a : Addr) (oe : Obj) (c : Str) (C : Addr) (pn : List (Addr × Obj)), Γ c = some C → ct c = some true → Zc (.ref C) none oe → (∃ vs, oe.data = .fields vs) → ∃ t, DSs Γ (X.suite a ((a, oe) :: pn)) W0 rm (M.set i .sh) (b₀ :: suite) t (ss a c) M1 wu)
    (hw : ∀ j ∈ wb, j ∈ ws) (ho : ∀ j, md M j = .ow → j ∈ ws) (hl : i < M.length) (hr : ∀ j, j ∈ wb ∨ j ∈ wu ∨ j = i → j ∈ wr) (hi1 : md M1 i ≠ .ow) (hxo : rm.xo = [] := by rfl)
    (hi : X.N[i]? = some n := by rfl) (hs : X.stack = X.env :: X.outer := by rfl) (hex : X.ex = [] := by rfl) (hf : X.env.frame = some X.env.locals := by rfl) (hln : X.env.kindOf n = some .local := by rfl) :
    DS Γ X E rm M (.Try body [.ExceptHandler (some (.Name x np)) (some n) (b₀ :: suite) pos'] [] [] pos)
      (fun D σ H => tb (wAs X.K (.ref Cc) i (fun a cls d D σ H => ∀ oe pn, Zc cls d oe → (∃ vs, oe.data = .fields vs) → ∃ t, PSs (X.suite a ((a, oe) :: pn)) (b₀ :: suite) t ∧ t D σ H) E D) D σ H)
      (sTryAs i ct ws sb ss) M1 wr :=
  ⟨ps_try_as hs hf hN hi hln hc tk (fun W pn xe t p => (hb W pn xe t p).pss) (fun a oe cls d pn hz hfl => pss_of fun D σ H q => q oe pn hz hfl), fun S0 H0 S H σ δ Dn o w ef k => by
    obtain ⟨o1, e1, e2⟩ := bind_some ef
    have tk0 : ∀ W : WX, Takes (X.tr [] (fun e s' => wpAny (model X.prog X.w) X.A (leaving X.env e) (fun _ s'' => L2.CX X.prog X.w X.outer X.H_0 X.s_0 (fun _ _ _ => True) e s'') (fun _ _ => True) s')) W := fun W =>
      (takes_of (X := X.tr [] (fun e s' => wpAny (model X.prog X.w) X.A (leaving X.env e) (fun _ s'' => L2.CX X.prog X.w X.outer X.H_0 X.s_0 (fun _ _ _ => True) e s'') (fun _ _ => True) s')) (E := fun _ _ _ => True) (E₁ := fun _ _ => True) hs hf hex rfl).imp fun _ _ _ _ _ => trivial
    refine (hb _ [] _ (tk0 _) PassesOwn.leaving).snd S0 H0 S H σ δ Dn o1 w e1 ?_
    cases o1 with
    | nx δ1 =>
      cases e2
      exact fun S1 H1 σ1 s1 w1 f1 => k S1 H1 σ1 s1 w1 (f1.up fun j z => hr j (.inl z))
    | rt d => cases e2; exact fun v S1 H1 σ1 s1 x1 f1 => k v S1 H1 σ1 s1 x1 (f1.up fun j z => hr j (.inl z))
    | ex c fs =>
      have e2 : (if fs.isEmpty = true then (ct c).bind fun b => if b = true then (allA fun a => (ss a c ((wipeE δ ws).set i (some (.exc a c)))).bind (goneO i)) else some (.ex c fs) else none) = some o := e2
      by_cases hfs : fs.isEmpty = true
      · rw [if_pos hfs] at e2
        have efs : fs = [] := List.isEmpty_iff.mp hfs
        subst efs
        obtain ⟨b, e3, e4⟩ := bind_some e2
        intro cls dd S1 H1 σ1 s1 x1 f1 rx
        obtain ⟨C, hC, rfl, rx2⟩ := rx
        refine ⟨b, hct c b C e3 hC, fun hbt a na => ?_, fun hbf => ?_⟩
        · subst hbt
          rw [if_pos rfl] at e4
          obtain ⟨o2, e5, e6⟩ := bind_some (allA_some e4 a)
          intro oe pn hz hfl
          have hdd : dd = none := by
            rcases rx2 with ⟨_, h⟩ | ⟨h1, _⟩
            · exact h
            · exact (h1 rfl).elim
          subst hdd
          obtain ⟨t, ht⟩ := hsu a oe c C pn hC e3 hz hfl
          refine ⟨t, ht.pss, ht.snd S0 H0 S1 H1 _ _ _ o2 ((w.after s1 x1 f1 hw ho).store hl (.inl rfl) (show RepM X.K Γ H0 S1 H1 .sh (.exc a c) (.ref a) from (rfl : V.ref a = .ref a)) (fun z => by cases z) fun z => by cases z) e5 ?_⟩
          cases o2 with
          | nx δ2 =>
            cases e6
            refine fun S3 H3 σ3 s3 w3 f3 => k S3 H3 (σ3.set i none) (s1.trans s3) (w3.wipe [i]) ?_
            refine ((f1.trans (Fr.set (i := i))).trans (f3.trans (Fr.set (i := i)))).up fun j hj => ?_
            simp only [List.mem_append, List.mem_singleton] at hj
            rcases hj with (hj | hj) | (hj | hj)
            · exact hr j (.inl hj)
            · exact hr j (.inr (.inr hj))
            · exact hr j (.inr (.inl hj))
            · exact hr j (.inr (.inr hj))
          | rt d =>
            cases e6
            refine fun v S3 H3 σ3 s3 x3 f3 => k v S3 H3 σ3 (s1.trans s3) x3 ?_
            refine ((f1.trans (Fr.set (i := i))).trans f3).up fun j hj => ?_
            simp only [List.mem_append, List.mem_singleton] at hj
            rcases hj with (hj | hj) | hj
            · exact hr j (.inl hj)
            · exact hr j (.inr (.inr hj))
            · exact hr j (.inr (.inl hj))
          | ex c fs => cases e6
        · subst hbf
          rw [if_neg Bool.false_ne_true] at e4
          cases e4
          exact k (.ref C) dd S1 H1 σ1 s1 x1 (f1.up fun j z => hr j (.inl z)) (by rw [hxo]; exact ⟨C, hC, rfl, rx2⟩)
      · rw [if_neg hfs] at e2; cases e2⟩
end
end Dl
set_option maxHeartbeats 1000000
/-! defs called in an except suite, with the exception as an argument; isinstance of it. -/
namespace Dl
open PySem L2 PyProof.Rows
/-- what a def promises where an exception of class C at pin is handled -/
structure FnE (P : Program) (w : World) (K : PySem.W.Frag) (mg : Str → Option Value) (base : Heap) (pin C : Addr) (k : Nat) (f : Addr) (fd : FuncData) (ps : List Str) (sp : Sp) : Prop where
  len : ∀ vs H Q E, sp vs H Q E → vs.length = ps.length
  run : ∀ (A : Around) (outer : List PySem.Env) (s : Shared) (H : Hp) (args : Args) (us : List Value) (vs : List V) (Q : VK) (E : XK) (oe : Obj), Zc (.ref C) none oe → (∃ vs, oe.data = .fields vs) → L2H.RoomH k A → L2H.PinOk outer H s (pin, oe) → Env0 P w K mg base A outer s H → BindsTo s fd args (ps.zip us) → Vals vs us → sp vs H Q E →
    codeAny (model P w) A (.call (.ref f) args) (CR CX0 outer P w H s Q E) s
theorem fn_ofE {P : Program} {w : World} {K : PySem.W.Frag} {mg : Str → Option Value} {base : Heap} {pin C : Addr} {k : Nat} {f : Addr} {name qual : Str} {params : Arguments} {body : List Stmt} {scope : Scope} {dV kV doc pm cdv ct oc : Value} {an od : Option Addr}
    {osl : Array (Option Value)} {N ps : List Str} {sp : Sp} (lk : K.lookup f = some ⟨oc, od, .func (PySem.W.fnOf name qual params body scope dV kV doc pm an cdv ct), osl⟩) (hcd : PySem.W.codeIn K cdv qual = true) (S : FnScope N ps scope)
    (len : ∀ vs H Q E, sp vs H Q E → vs.length = ps.length)
    (hbody : ∀ (A : Around) (outer : List PySem.Env) (s : Shared) (H : Hp) (vs : List V) (Q : VK) (E : XK) (oe : Obj), Zc (.ref C) none oe → (∃ vs, oe.data = .fields vs) → L2H.RoomH k (A.deeper (envOfC qual scope s.heap.objs.size f cdv)) → sp vs H Q E →
      ∃ t, PSs (L2H.cxH CX0 P w K mg base N qual scope f cdv A outer s H E (pin, oe)) body t ∧ t { nx := fun _ H' => Q .non H', rt := Q } (L2.start N vs) H) :
    FnE P w K mg base pin C (k + 1) f (PySem.W.fnOf name qual params body scope dV kV doc pm an cdv ct) ps sp := by
  refine ⟨len, fun A outer s H args us vs Q E oe hz hf hr hpin e0 hb r hsp => ?_⟩
  have hl := len _ _ _ _ hsp
  have KX : K.In s.heap := e0.mod.kin.keeps fun b o e => (e0.bs b o e).1
  have lim : s.heap.NoLimit := e0.mod.nolimit.keeps fun b o e => (e0.bs b o e).1
  have hkind : ∀ y ∈ ps.zip us, scope.names.lookup y.1 = some .local ∨ (scope.names.lookup y.1 = some .cell ∧ ((cellsFrom (s.heap.objs.size + 1) scope.names []).lookup y.1).isSome = true) := fun ⟨n, v⟩ hy => by
    rcases S.par n (List.of_mem_zip hy).1 with q | q
    · exact .inl q
    · exact .inr ⟨q, PySem.W.cellsFrom_some _ _ _ (.inl q)⟩
  refine codeAny_call_function hr.depth (KX _ _ lk) rfl S.co S.gen rfl (PySem.W.codeRec_of KX hcd) (hb _ _ _ _ ?_)
  refine wpAny_newFunctionEnv_cells S.kind hkind fun env he s1 x => ?_
  subst he
  refine ⟨lim.keeps x.toInCall.keep, codeAny_func ?_⟩
  obtain ⟨t, ht, hq⟩ := hbody A outer s H vs Q E oe hz hf (hr.deeper _) hsp
  have I : Inv (L2H.cxH CX0 P w K mg base N qual scope f cdv A outer s H E (pin, oe)) [] (L2.start N vs) H s1 := L2H.inv_startH S hpin e0 hl r x
  refine wpAny_mono (ht.run [] s1 (L2.start N vs) H _ I hq) (fun fl s' hs => ?_) fun e s' hs => hs
  have fin : ∀ {σ' : L2.St} {H' : Hp} {v : V} {u : Value}, Inv (L2H.cxH CX0 P w K mg base N qual scope f cdv A outer s H E (pin, oe)) [] σ' H' s' → RelV v u → Q v H' → CE outer P w H s Q u s' :=
    fun {σ' H' v u} J rv q => ⟨v, H', J.os, J.bare, J.base, J.hok, rv, q⟩
  cases fl with
  | ret u =>
    obtain ⟨v, σ', H', J, rv, q⟩ := hs
    exact fin J rv q
  | next =>
    obtain ⟨σ', H', J, q⟩ := hs
    exact fin (v := V.non) (u := Value.none) J rfl q
  | brk =>
    obtain ⟨_, _, _, q⟩ := hs
    exact False.elim q
  | cont =>
    obtain ⟨_, _, _, q⟩ := hs
    exact False.elim q
section
variable {X : Cx} {pin C : Addr} {oe : Obj} {k : Nat} {f : Addr} {fd : FuncData} {ps : List Str} {sp : Sp} {x : Str} {q pos : Pos} {e : Expr} {es : List Expr} {t : TA}
theorem run_fnE {pins : List (Addr × Obj)} {σ : L2.St} {H : Hp} {s : Shared} {Q : VK} {us : List Value} {vs : List V} (F : FnE X.prog X.w X.K X.mg X.base pin C k f fd ps sp) (hz : Zc (.ref C) none oe) (hf : ∃ vs, oe.data = .fields vs) (hm : (pin, oe) ∈ X.pn) (hr : L2H.RoomH k X.A) (hb : Binds X.K fd ps [])
    (I : Inv X pins σ H s) (r : Vals vs us) (h : sp vs H Q E0) : wpAny (model X.prog X.w) X.A (call (.ref f) us) (EP X pins σ Q) X.xe s := by
  have hl : us.length = ps.length := by rw [← r.length]; exact F.len _ _ _ _ h
  have b := hb s us I.kIn (by rw [List.append_nil]; exact hl)
  rw [List.append_nil] at b
  have P1 := I.pin (pin, oe) (List.mem_append_left _ hm)
  have hpin : L2H.PinOk X.stack H s (pin, oe) := ⟨P1.1, P1.2.1, fun hm => (List.mem_cons.mp (I.stkSub pin hm)).elim P1.2.2.1 P1.2.2.2.1, P1.2.2.2.2⟩
  refine wpAny_call (codeAny_mono (F.run X.A X.stack s H ⟨us, []⟩ us vs Q E0 oe hz hf hr hpin I.env0 b r h) fun r s' hq => ?_)
  cases r with
  | error e => exact False.elim hq
  | ok fl =>
    cases fl with
    | ret u => exact I.after hq
    | next => exact False.elim hq
    | brk => exact False.elim hq
    | cont => exact False.elim hq
theorem pe_callE (F : FnE X.prog X.w X.K X.mg X.base pin C k f fd ps sp) (hz : Zc (.ref C) none oe) (hf : ∃ vs, oe.data = .fields vs) (hm : (pin, oe) ∈ X.pn) (hr : L2H.RoomH k X.A) (hg : Gl X x) (hx : X.mg x = some (.ref f)) (hk : PySem.W.keepIn X.K (.ref f) = true) (hb : Binds X.K fd ps [])
    (ha : PA X (e :: es) t) (hdb : (x == ("__debug__" : Str)) = false := by decide) (he : starEach (e :: es) X.env = (false, eval e X.env) :: starEach es X.env := by rfl) (hpl : (backTo pos (starEach es X.env)).any (·.1) = false := by rfl) :
    PE X (.Call (.Name x q) (e :: es) [] pos) (tCall sp [] E0 t) := by
  refine ⟨fun pins s σ H Q I h => ?_⟩
  refine wpAny_Call_Name_kw (ld_glob I hg hx ?_ hdb)
  refine PySem.W.callWith_K (h₀ := X.base) I.ok.mod.kin hk (thn (ha.run pos pins s σ H _ I h) fun us s1 ⟨vs, H1, I1, r, q⟩ => ⟨I1.kIn, ?_⟩) he hpl
  have q' : sp (vs ++ []) H1 Q E0 := q
  rw [List.append_nil] at q'
  exact run_fnE F hz hf hm hr hb I1 r q'
end
/-! ### as a def of ours -/
section
variable {P : Program} {w : World} {K : PySem.W.Frag} {mg : Str → Option Value} {base : Heap} {Γ : CM}
theorem fn_okE {x qual : Str} {st : Stmt} {f : Addr} {fd : FuncData} {N ps : List Str} {k : Nat} {pm : List Mode} {rm : Mode} {s : Sv} {M' : List Mode} {pin C : Addr} (F : Fun K x qual st f fd) (S : FnScope N ps (defScope st)) (hl : pm.length = ps.length) (hp : pm.all (fun m => m == .sh || m == .bo) = true) {M0 : List Mode} (hM : initM N.length pm = M0) {n np : Nat} (hn : N.length = n) (hnp : ps.length = np)
    (hbody : ∀ (cdv : Value) (A : Around) (outer : List PySem.Env) (s0 : Shared) (H : Hp) (E : XK) (oe : Obj), Zc (.ref C) none oe → (∃ vs, oe.data = .fields vs) → L2H.RoomH k (A.deeper (PyProof.Rows.envOfC qual (defScope st) s0.heap.objs.size f cdv)) →
      ∃ t ws, DSs Γ (L2H.cxH CX0 P w K mg base N qual (defScope st) f cdv A outer s0 H E (pin, oe)).nox W0 ⟨rm, [], []⟩ M0 (defBody st) t s M' ws) : FnE P w K mg base pin C (k + 1) f fd ps (spD K Γ pm rm (denOf n np rm s)) := by
  subst hM hn hnp
  obtain ⟨oc, od, kV, doc, pmv, an, cdv, ct, osl, rfl, lk, hcd⟩ := F.ex
  refine fn_ofE lk hcd S (fun vs H Q E h => ?_) (fun A outer s0 H vs Q E oe hz hf hr h => ?_)
  · obtain ⟨S1, ds, r, _, ra, _⟩ := h
    rw [ra.len.1, hl]
  · obtain ⟨S1, ds, r, sh, ra, ed, kk⟩ := h
    obtain ⟨t, ws, hb⟩ := hbody cdv A outer s0 H E oe hz hf hr
    refine ⟨t, hb.pss.nox, ?_⟩
    unfold denOf at ed
    have hds : ds.length = ps.length := ra.len.2.trans hl
    rw [if_pos hds] at ed
    obtain ⟨o, e1, e2⟩ := bind_some ed
    rw [← hl] at e1
    refine hb.snd S1 H S1 H _ _ _ o (Wd.begin sh ra hp) e1 ?_
    cases o with
    | nx δ =>
      have e2 : (if rm = .sh then some D.non else none) = some r := e2
      obtain ⟨c, rfl⟩ := ite_some e2
      subst c
      exact fun S2 H2 σ2 s2 w2 _ => kk .non S2 H2 w2.ext rfl fun z => by cases z
    | rt d =>
      cases e2
      exact fun v S2 H2 σ2 _ x2 _ r2 => kk v S2 H2 x2 r2.1 r2.2
    | ex c fs => cases e2
end
theorem roomE {k : Nat} {A : Around} {h : Option Value} (r : L2H.RoomH k A) : L2H.RoomH k (A.mark h) := ⟨r.dp, r.un⟩
theorem RoomE.units {k : Nat} {A : Around} (r : L2H.RoomH k A) : A.units + 64 < cLine := by have := r.un; omega
section
variable {X : Cx} {Γ : CM} {M : List Mode} {e : Expr} {es : List Expr} {tr : TA} {fr : Env → Option (List D)} {m : Mode} {pos : Pos} {pin C : Addr} {oe : Obj}
theorem de_callE (K : PySem.W.Frag) {mg : Str → Option Value} {x qual : Str} {st : Stmt} {ps : List Str} {k : Nat} {p : Pos} {pm : List Mode} {den : List D → Option D} (hz : Zc (.ref C) none oe) (hf : ∃ vs, oe.data = .fields vs) (T : Dfn K mg x qual st ps) (F : FnE X.prog X.w K mg X.base pin C k T.f T.fd ps (spD K Γ pm m den)) (hr : L2H.RoomH k X.A)
    (ha : DAr Γ X M (e :: es) tr fr pm) (hpn : (pin, oe) ∈ X.pn := by exact List.mem_cons_self) (hg : Gl X x := by rfl) (hm : okS m = true := by rfl) (h2 : (x == ("__debug__" : Str)) = false := by decide) (h3 : starEach (e :: es) X.env = (false, eval e X.env) :: starEach es X.env := by rfl) (h4 : (backTo pos (starEach es X.env)).any (·.1) = false := by rfl) (hK : X.K = K := by rfl) (hmg : X.mg = mg := by rfl) :
    DE Γ X M (.Call (.Name x p) (e :: es) [] pos) (tCall (spD K Γ pm m den) [] E0 tr) (vC1 den fr) m := by
  subst hK hmg
  exact ⟨pe_callE F hz hf hpn hr hg T.gl T.fn.kp T.bd ha.pa h2 h3 h4, snd_call hm ha.snd⟩
end
/-! ### isinstance of the exception -/
theorem call_isEx {X : Cx} {a D : Addr} {oe : Obj} (C : ExcC X.K D) (hz : Zc (.ref D) none oe) (hf : ∃ vs, oe.data = .fields vs) (hm : (a, oe) ∈ X.pn) : CallR X (.builtin "isinstance") (rIsE X.K D a) := by
  intro pins s σ H xs us Q I r h
  obtain ⟨c, cv, b, rfl, hcv, e, q⟩ := h
  cases r with
  | cons rx rr =>
    cases rr with
    | cons rt rr =>
      cases rr
      cases rx
      have ec := hcv _ rt
      subst ec
      obtain ⟨hget, _⟩ := I.pin (a, oe) (List.mem_append.mpr (.inl hm))
      obtain ⟨vs, hv⟩ := hf
      have J : PySem.W.InstAt s.heap a oe D none := by
        obtain ⟨oc, od, oda, osl⟩ := oe
        obtain ⟨h1, h2⟩ := hz
        dsimp only at h1 h2 hv
        subst h1 h2 hv
        exact ⟨hget, rfl, rfl, trivial⟩
      exact PySem.W.kia_one (PySem.W.handS_kitx_exc C.hg C.hk C.hs C.hd C.ha C.hn C.ht C.hm) I.kIn J e (fun z => nomatch z) fun tk => ⟨.bl b, H, I.kept (t' := tk) fun _ _ z => z, rfl, q⟩
/-- is one class of these under another one -/
def subX (c n : Str) : Bool := decide (n = c) || decide (n = "PlayError")
def opIsE (pin : Addr) (c : Str) : List D → Option D
  | [.exc a c', .cls n] => if a = pin ∧ c' = c ∧ n ∈ excN then some (.bl (subX c n)) else none
  | [.exc a c', .ty n] => if a = pin ∧ c' = c ∧ n = "ValueError" then some (.bl true) else none
  | _ => none
structure ExcI (K : PySem.W.Frag) (Γ : CM) (c : Str) (C : Addr) : Prop where
  cc : ExcC K C
  ki : ∀ n Cn, Γ n = some Cn → n ∈ excN → PySem.W.kitOne K (.ref C) (.ref Cn) = some (subX c n)
  kv : PySem.W.kitOne K (.ref C) (.type "ValueError") = some true
theorem cd_isE (K : PySem.W.Frag) {X : Cx} {Γ : CM} {pin C : Addr} {oe : Obj} {c : Str} (T : ExcI K Γ c C) (hz : Zc (.ref C) none oe) (hf : ∃ vs, oe.data = .fields vs) (hm : (pin, oe) ∈ X.pn := by exact List.mem_cons_self) (hK : X.K = K := by rfl) : CD Γ X (.builtin "isinstance") (rIsE K C pin) (opIsE pin c) [.bo, .sh] .sh := by
  subst hK
  refine ⟨call_isEx T.cc hz hf hm, fun S H ds vs d Q sh r e k => ?_⟩
  match ds, e, r with
  | [.exc a c', .cls n], e, r =>
    have e : (if a = pin ∧ c' = c ∧ n ∈ excN then some (D.bl (subX c n)) else none) = some d := e
    obtain ⟨⟨rfl, rfl, hn⟩, rfl⟩ := ite_some e
    obtain ⟨v, v2, rfl, r1, r2⟩ := ArgMs.get2 r
    have e1 : v = .ref a := r1.flat (Same.refl _) fun _ _ t => t
    have e2 : ∃ Cn, Γ n = some Cn ∧ v2 = .ref Cn := r2.flat (Same.refl _) fun _ _ t => t
    obtain ⟨Cn, hn2, rfl⟩ := e2
    subst e1
    exact ⟨.ref Cn, .ref Cn, _, rfl, fun u h => h, T.ki n Cn hn2 hn, k.flat sh rfl⟩
  | [.exc a c', .ty n], e, r =>
    have e : (if a = pin ∧ c' = c ∧ n = "ValueError" then some (D.bl true) else none) = some d := e
    obtain ⟨⟨rfl, rfl, rfl⟩, rfl⟩ := ite_some e
    obtain ⟨v, v2, rfl, r1, r2⟩ := ArgMs.get2 r
    have e1 : v = .ref a := r1.flat (Same.refl _) fun _ _ t => t
    have e2 : v2 = .ty "ValueError" := r2.flat (Same.refl _) fun _ _ t => t
    subst e1 e2
    exact ⟨.ty "ValueError", .type "ValueError", _, rfl, fun u h => h, T.kv, k.flat sh rfl⟩
/-- a class's name as a value -/
theorem de_cls {X : Cx} {Γ : CM} {M : List Mode} {x : Str} {C : Addr} {pos : Pos} (hm : X.mg x = some (.ref C)) (hΓ : Γ x = some C) (hg : Gl X x := by rfl) (hd : (x == ("__debug__" : Str)) = false := by decide) : DE Γ X M (.Name x pos) (tC (.ref C)) (vC (.cls x)) .sh := ⟨pe_glob hg hm (show RelV (.ref C) (.ref C) from rfl) hd, snd_c fun _ => ⟨C, hΓ, rfl⟩⟩
end Dl
/-! xs.count(y), of plain data. -/
namespace Dl
open PySem L2 PyProof.Rows
def opCnt (l y : D) : Option D := match l with
  | .lst ds => if cmpOk (.lst ds) y then some (.int ((ds.countP fun z => D.eqv z y : Nat) : Int)) else none
  | _ => none
def vCnt (fo fe : Ev) : Ev := fun δ => (fo δ).bind fun l => (fe δ).bind fun y => opCnt l y
def rCntD (K : PySem.W.Frag) (Γ : CM) : V → List V → Hp → VK → Prop := fun x xs H Q => ∃ ds d y, Rep K Γ H (.lst ds) x ∧ xs = [y] ∧ Rep K Γ H d y ∧ cmpOk (.lst ds) d = true ∧ Q (.int ((ds.countP fun z => D.eqv z d : Nat) : Int)) H
theorem pyL_count (a : D) : ∀ ds : List D, ((D.pyL ds).countP fun y => PyData.eqv y a.py) = ds.countP fun y => D.eqv y a
  | [] => rfl
  | d :: ds => by
    show List.countP _ (d.py :: D.pyL ds) = _
    rw [List.countP_cons, List.countP_cons, pyL_count a ds]; rfl
theorem mt_countD {X : Cx} {Γ : CM} (hu : X.A.units + 64 < cLine) : MtR X "list.count" (rCntD X.K Γ) := by
  intro pins s σ H x xs v us Q I rx rxs h
  obtain ⟨ds, d, y, rl, rfl, rd, c, q⟩ := h
  obtain ⟨u, rfl, ru⟩ := rxs.one
  obtain ⟨c1, c2, c3⟩ := cmpOk_and c
  obtain ⟨as, r1⟩ := Rep.reads I (.lst ds) x v rl rx c1
  obtain ⟨bs, r2⟩ := Rep.reads I d y u rd ru c2
  have r1' : Reads s.heap v (.list (D.pyL ds)) as := r1
  have hxs : PyData.plainAll (D.pyL ds) = true := c1
  have c3' : min (PyData.depthAll (D.pyL ds) + 1) d.py.depth ≤ 60 := c3
  cases r1' with
  | @list a o vs n _ _ h1 h2 h3 h4 =>
    obtain ⟨cls, dd, data, sl⟩ := o
    simp only at h2 h3
    subst h2 h3
    refine call_meets PySem.F.slot_list_count ⟨_, h1, rfl⟩ PySem.F.entry_list_count (PySem.F.args_list_count_2 _ _)
      (SeqAt.list_countAt a vs n dd sl u (fun z => PyData.eqv (SeqAt.readOf s.heap z) d.py)) ⟨h1, fun z hz => SeqAt.items_plain (A := X.A) h4 r2 hxs c2 (by omega) z hz, ?_⟩
    have ec : vs.toList.countP (fun z => PyData.eqv (SeqAt.readOf s.heap z) d.py) = ds.countP fun z => D.eqv z d := by
      rw [← pyL_count, ← SeqAt.readsAll_map_plain _ _ _ hxs h4, List.countP_map]; rfl
    refine ⟨.int _, H, I.tok _, ⟨s.toks, ?_⟩, q⟩
    rw [ec]
section
variable {X : Cx} {Γ : CM} {M : List Mode} {o e : Expr} {to te : TE} {fo fe : Ev} {mo me : Mode} {apos cpos : Pos}
theorem de_count (K : PySem.W.Frag) (hu : X.A.units + 64 < cLine) (ho : DE Γ X M o to fo mo) (he : DE Γ X M e te fe me) (hme : okS me = true := by rfl)
    (h1 : attributeBase o "count" X.env (eval o X.env) = eval o X.env := by rfl)
    (h2 : (((backTo cpos (starEach [e] X.env)).all (!·.1)) && ((backToKw cpos (keywordEach [] X.env)).all (·.1.isSome)) && decide (([e].length + ([] : List Keyword).length + if ([] : List Keyword).isEmpty = true then 0 else 1) < 30)) = true := by rfl) (h3 : (apos.endLine == cpos.line) = true := by rfl)
    (h4 : starEach [e] X.env = (false, eval e X.env) :: starEach [] X.env := by rfl) (h5 : (backTo cpos (starEach [] X.env)).any (·.1) = false := by rfl) (hK : X.K = K := by rfl) :
    DE Γ X M (.Call (.Attribute o "count" apos) [e] [] cpos) (tBM K "list" (rCntD K Γ) to (tCons te tNil)) (vCnt fo fe) .sh := by
  subst hK
  refine ⟨pe_bm PySem.F.plainAttrs_list PySem.F.slot_list_count PySem.F.type_list_count (mt_countD hu) ho.pe (pa_cons he.pe pa_nil h4) h1 h2 h3 h4 h5, fun S0 H0 S H σ δ Q d w ef k => ?_⟩
  obtain ⟨l, e1, e2⟩ := bind_some ef
  obtain ⟨y, e3, e4⟩ := bind_some e2
  cases l with
  | lst ds =>
    obtain ⟨c, rfl⟩ := ite_some (show (if cmpOk (.lst ds) y then some (D.int ((ds.countP fun z => D.eqv z y : Nat) : Int)) else none) = some d from e4)
    refine ho.snd S0 H0 S H σ δ _ _ w e1 fun v S1 H1 x1 r1 _ => ?_
    have w1 := w.mono x1
    obtain ⟨p, vs, rfl, hp, hl, rl⟩ := r1.lst x1.sh w1.h0
    refine ⟨.inl ⟨rfl, vs, SqL.of hp⟩, ?_⟩
    refine (he.snd.sh hme) S0 H0 S1 H1 σ δ _ _ w1 e3 fun u S2 H2 x2 r2 _ => ?_
    have w2 := w1.mono x2
    refine ⟨ds, y, u, ⟨p, vs, rfl, x2.hh _ _ hp, hl, (rl.mono x2.ss).mono x2.sh⟩, rfl, r2.full x2.sh w2.h0, c, ?_⟩
    exact k _ S2 H2 (x1.trans x2) rfl fun q => by cases q
  | _ => cases e4
end
end Dl
/-! plain laws of the denotations: evaluation by simp, loops by simulation. -/
namespace Dl
open PySem L2
section
@[simp] theorem vVar_def (i : Nat) (δ : Env) : vVar i δ = (δ[i]?).join := rfl
@[simp] theorem vC_def (d : D) (δ : Env) : vC d δ = some d := rfl
@[simp] theorem v2_def (o : D → D → Option D) (f g : Ev) (δ : Env) : v2 o f g δ = (f δ).bind fun a => (g δ).bind fun b => o a b := rfl
@[simp] theorem vTst_def (f : Ev) (δ : Env) : vTst f δ = (f δ).bind fun d => match d with | .bl b => some b | _ => none := rfl
@[simp] theorem vChain_def (o o' : D → D → Option D) (f g h : Ev) (δ : Env) : vChain o o' f g h δ = (f δ).bind fun a => (g δ).bind fun b => (o a b).bind fun d => match d with
  | .bl c => if c = true then (h δ).bind fun c => o' b c else some (.bl false)
  | _ => none := by
  unfold vChain
  congr 1; funext a; congr 1; funext b; congr 1; funext d
  cases d with
  | bl c => cases c <;> rfl
  | _ => rfl
@[simp] theorem bAnd_def (p q : Env → Option Bool) (δ : Env) : bAnd p q δ = (p δ).bind fun b => if b = true then q δ else some false := rfl
@[simp] theorem bOr_def (p q : Env → Option Bool) (δ : Env) : bOr p q δ = (p δ).bind fun b => if b = true then some true else q δ := rfl
@[simp] theorem bNot_def (p : Env → Option Bool) (δ : Env) : bNot p δ = (p δ).map (!·) := rfl
@[simp] theorem vAnd_def (f g : Ev) (δ : Env) : vAnd f g δ = (vTst f δ).bind fun b => if b = true then g δ else some (.bl false) := rfl
@[simp] theorem vOr_def (f g : Ev) (δ : Env) : vOr f g δ = (vTst f δ).bind fun b => if b = true then some (.bl true) else g δ := rfl
@[simp] theorem vNot_def (f : Ev) (δ : Env) : vNot f δ = (vTst f δ).map fun b => .bl (!b) := rfl
@[simp] theorem vIf_def (p : Env → Option Bool) (f g : Ev) (δ : Env) : vIf p f g δ = (p δ).bind fun b => if b = true then f δ else g δ := rfl
@[simp] theorem vNeg_def (f : Ev) (δ : Env) : vNeg f δ = (f δ).bind fun d => match d with | .int i => some (.int (-i)) | _ => none := rfl
@[simp] theorem aNil_def (δ : Env) : aNil δ = some [] := rfl
@[simp] theorem aCons_def (f : Ev) (g : Env → Option (List D)) (δ : Env) : aCons f g δ = (f δ).bind fun d => (g δ).map (d :: ·) := rfl
@[simp] theorem vLst_def (f : Env → Option (List D)) (δ : Env) : vLst f δ = (f δ).bind fun ds => if ds.length ≤ 1000 then some (.lst ds) else none := rfl
@[simp] theorem vTup_def (f : Env → Option (List D)) (δ : Env) : vTup f δ = (f δ).bind fun ds => if ds.length ≤ 1000 then some (.tup ds) else none := rfl
@[simp] theorem vFld_def (x : Str) (f : Ev) (δ : Env) : vFld x f δ = (f δ).bind fun d => (fldsD d).bind fun fs => fs.lookup x := rfl
@[simp] theorem vC1_def (op : List D → Option D) (f : Env → Option (List D)) (δ : Env) : vC1 op f δ = (f δ).bind op := rfl
@[simp] theorem vPart_def (f : Ev) (δ : Env) : vPart f δ = (f δ).bind fun d => match d with | .int i => some (some i) | _ => none := rfl
@[simp] theorem vSl_def (o : D → Option Int → Option Int → Option D) (f : Ev) (l u : Env → Option (Option Int)) (δ : Env) : vSl o f l u δ = (f δ).bind fun d => (l δ).bind fun lo => (u δ).bind fun hi => o d lo hi := rfl
@[simp] theorem sNext_def (δ : Env) : sNext δ = some (.nx δ) := rfl
@[simp] theorem sSeq_def (s s' : Sv) (δ : Env) : sSeq s s' δ = (s δ).bind fun o => match o with | .nx δ' => s' δ' | o => some o := rfl
@[simp] theorem sSet_def (i : Nat) (f : Ev) (δ : Env) : sSet i f δ = (f δ).map fun d => .nx (δ.set i (some d)) := rfl
@[simp] theorem sRet_def (f : Ev) (δ : Env) : sRet f δ = (f δ).map .rt := rfl
@[simp] theorem sRetN_def (δ : Env) : sRetN δ = some (.rt .non) := rfl
@[simp] theorem sIf_def (p : Env → Option Bool) (s s' : Sv) (δ : Env) : sIf p s s' δ = (p δ).bind fun b => if b = true then s δ else s' δ := rfl
@[simp] theorem sExpr_def (f : Ev) (δ : Env) : sExpr f δ = (f δ).map fun _ => .nx δ := rfl
@[simp] theorem sAsg_def (f : Ev) (h : Hv) (δ : Env) : sAsg f h δ = (f δ).bind fun d => (h d δ).map .nx := rfl
@[simp] theorem sFor_def (it : Env → Option (List D)) (set : Hv) (body : Sv) (δ : Env) : sFor it set body δ = (it δ).bind fun ds => forD set body ds δ := rfl
@[simp] theorem hName_def (i : Nat) (d : D) (δ : Env) : hName i d δ = some (δ.set i (some d)) := rfl
@[simp] theorem hTup_def (n : Nat) (hs : List D → Env → Option Env) (ds : List D) (δ : Env) : hTup n hs (.tup ds) δ = if ds.length = n then hs ds δ else none := rfl
@[simp] theorem hCons_def (h : Hv) (hs : List D → Env → Option Env) (d : D) (ds : List D) (δ : Env) : hCons h hs (d :: ds) δ = (h d δ).bind (hs ds) := rfl
@[simp] theorem hNil_def (δ : Env) : hNil [] δ = some δ := rfl
@[simp] theorem iAnyF_def (f : Ev) (δ : Env) : iAnyF f δ = (f δ).bind itemsD := rfl
@[simp] theorem itemsD_lst (ds : List D) : itemsD (.lst ds) = some ds := rfl
@[simp] theorem itemsD_tup (ds : List D) : itemsD (.tup ds) = some ds := rfl
@[simp] theorem itemsD_scr (ns : List Int) : itemsD (.scr ns) = some (ns.map D.int) := rfl
@[simp] theorem itemsD_str (x : Str) : itemsD (.str x) = some (signs x) := rfl
@[simp] theorem vLc_def (it : Env → Option (List D)) (set : Hv) (p : Env → Option Bool) (elt : Ev) (vs : List Nat) (δ : Env) : vLc it set p elt vs δ = (it δ).bind fun ds => (lcD set p elt (wipeE δ vs) ds).map .lst := rfl
@[simp] theorem tsYes_def (δ : Env) : tsYes δ = some true := rfl
@[simp] theorem wipeE_nil (δ : Env) : wipeE δ [] = δ := rfl
@[simp] theorem wipeE_cons (δ : Env) (v : Nat) (vs : List Nat) : wipeE δ (v :: vs) = (wipeE δ vs).set v none := rfl
@[simp] theorem opI_ii (g : Int → Int → Option D) (i j : Int) : opI g (.int i) (.int j) = g i j := rfl
@[simp] theorem opAdd_ii (i j : Int) : opAdd (.int i) (.int j) = some (.int (i + j)) := rfl
@[simp] theorem opAdd_ss (a b : Str) : opAdd (.str a) (.str b) = if a.length + b.length ≤ sizeLine then some (.str (a ++ b)) else none := rfl
@[simp] theorem opSub_ii (i j : Int) : opSub (.int i) (.int j) = some (.int (i - j)) := rfl
@[simp] theorem opMulI_ii (i j : Int) : opMulI (.int i) (.int j) = if mulOk i j then some (.int (i * j)) else none := rfl
@[simp] theorem opMod_ii (i j : Int) : opMod (.int i) (.int j) = if 0 < j then some (.int (i % j)) else none := rfl
@[simp] theorem opDiv_ii (i j : Int) : opDiv (.int i) (.int j) = if 0 < j ∧ j < 1073741824 then some (.int (i / j)) else none := rfl
@[simp] theorem opPow_ii (i j : Int) : opPow (.int i) (.int j) = if 0 ≤ j ∧ j ≤ 1000000 ∧ i.natAbs < 2 ^ 64 then some (.int (i ^ j.toNat)) else none := rfl
@[simp] theorem opLt_ii (i j : Int) : opLt (.int i) (.int j) = some (.bl (decide (i < j))) := rfl
@[simp] theorem opLe_ii (i j : Int) : opLe (.int i) (.int j) = some (.bl (decide (i ≤ j))) := rfl
@[simp] theorem opGt_ii (i j : Int) : opGt (.int i) (.int j) = some (.bl (decide (j < i))) := rfl
@[simp] theorem opGe_ii (i j : Int) : opGe (.int i) (.int j) = some (.bl (decide (j ≤ i))) := rfl
@[simp] theorem opIs_non (a : D) : opIs a .non = some (.bl (isNon a)) := by cases a <;> rfl
@[simp] theorem opNot_non (a : D) : opNot a .non = some (.bl (!isNon a)) := by cases a <;> rfl
@[simp] theorem isNon_non : isNon .non = true := rfl
@[simp] theorem isNon_int (i : Int) : isNon (.int i) = false := rfl
@[simp] theorem isNon_str (i : Str) : isNon (.str i) = false := rfl
@[simp] theorem isNon_bl (i : Bool) : isNon (.bl i) = false := rfl
@[simp] theorem isNon_tup (i : List D) : isNon (.tup i) = false := rfl
@[simp] theorem isNon_lst (i : List D) : isNon (.lst i) = false := rfl
@[simp] theorem opLen_lst (ds : List D) : opLen [.lst ds] = some (.int ds.length) := rfl
@[simp] theorem opLen_tup (ds : List D) : opLen [.tup ds] = some (.int ds.length) := rfl
@[simp] theorem opLen_scr (ns : List Int) : opLen [.scr ns] = some (.int ns.length) := rfl
@[simp] theorem opLen_str (x : Str) : opLen [.str x] = some (.int x.length) := rfl
@[simp] theorem opIx_lst (ds : List D) (i : Int) : opIx (.lst ds) (.int i) = atI ds i := rfl
@[simp] theorem opIx_tup (ds : List D) (i : Int) : opIx (.tup ds) (.int i) = atI ds i := rfl
@[simp] theorem opIx_ktup (ds : List D) (i : Int) : opIx (.ktup ds) (.int i) = atI ds i := rfl
@[simp] theorem opIx_scr (ns : List Int) (i : Int) : opIx (.scr ns) (.int i) = (atI ns i).map D.int := rfl
@[simp] theorem opIx_str (z : Str) (i : Int) : opIx (.str z) (.int i) = (atI z.cps.toList i).map fun c => D.str ⟨#[c]⟩ := rfl
end
/-! ### items -/
theorem atI_some {α : Type} {l : List α} {i : Int} (h0 : 0 ≤ i) (h1 : i < l.length) : atI l i = l[i.toNat]? := by
  have e : i = ((i.toNat : Nat) : Int) := by omega
  have hj : i.toNat < l.length := by omega
  rw [e, atI_nat (List.getElem?_eq_getElem hj)]
  rw [Int.toNat_natCast, List.getElem?_eq_getElem hj]
@[simp] theorem atI_0 {α : Type} (a : α) (l : List α) : atI (a :: l) 0 = some a := atI_nat (j := 0) rfl
@[simp] theorem atI_1 {α : Type} (a b : α) (l : List α) : atI (a :: b :: l) 1 = some b := atI_nat (j := 1) rfl
@[simp] theorem atI_2 {α : Type} (a b c : α) (l : List α) : atI (a :: b :: c :: l) 2 = some c := atI_nat (j := 2) rfl
@[simp] theorem atI_3 {α : Type} (a b c d : α) (l : List α) : atI (a :: b :: c :: d :: l) 3 = some d := atI_nat (j := 3) rfl
@[simp] theorem atI_4 {α : Type} (a b c d e : α) (l : List α) : atI (a :: b :: c :: d :: e :: l) 4 = some e := atI_nat (j := 4) rfl
/-! ### equality -/
@[simp] theorem opEq_ii (a b : Int) : opEq (.int a) (.int b) = some (.bl (a == b)) := rfl
@[simp] theorem opEq_ss (a b : Str) : opEq (.str a) (.str b) = some (.bl (a == b)) := rfl
@[simp] theorem opEq_bb (a b : Bool) : opEq (.bl a) (.bl b) = some (.bl (a == b)) := rfl
@[simp] theorem opNe_ii (a b : Int) : opNe (.int a) (.int b) = some (.bl (!(a == b))) := rfl
@[simp] theorem opNe_ss (a b : Str) : opNe (.str a) (.str b) = some (.bl (!(a == b))) := rfl
@[simp] theorem opNe_bb (a b : Bool) : opNe (.bl a) (.bl b) = some (.bl (!(a == b))) := rfl
@[simp] theorem opEq_in (a : Int) : opEq (.int a) .non = some (.bl false) := rfl
@[simp] theorem opEq_ni (a : Int) : opEq .non (.int a) = some (.bl false) := rfl
@[simp] theorem opNe_in (a : Int) : opNe (.int a) .non = some (.bl true) := rfl
@[simp] theorem opNe_ni (a : Int) : opNe .non (.int a) = some (.bl true) := rfl
@[simp] theorem opEq_nn : opEq .non .non = some (.bl true) := rfl
@[simp] theorem opNe_nn : opNe .non .non = some (.bl false) := rfl
/-- plain data of a depth -/
def fitN (n : Nat) (d : D) : Prop := d.py.plain = true ∧ d.py.depth ≤ n
theorem fit_int (i : Int) (n : Nat) : fitN n (.int i) := ⟨rfl, Nat.zero_le _⟩
theorem fit_str (i : Str) (n : Nat) : fitN n (.str i) := ⟨rfl, Nat.zero_le _⟩
theorem fit_bl (i : Bool) (n : Nat) : fitN n (.bl i) := ⟨rfl, Nat.zero_le _⟩
theorem fit_non (n : Nat) : fitN n .non := ⟨rfl, Nat.zero_le _⟩
theorem fit_all {n : Nat} : ∀ {ds : List D}, (∀ d ∈ ds, fitN n d) → PyData.plainAll (D.pyL ds) = true ∧ PyData.depthAll (D.pyL ds) ≤ n
  | [], _ => ⟨rfl, Nat.zero_le _⟩
  | d :: ds, h => by
    obtain ⟨a, b⟩ := fit_all fun x hx => h x (List.mem_cons_of_mem _ hx)
    obtain ⟨c, e⟩ := h d List.mem_cons_self
    exact ⟨by show (d.py.plain && _) = true; rw [c, a]; rfl, by show max d.py.depth _ ≤ n; omega⟩
theorem fit_lst {n : Nat} {ds : List D} (h : ∀ d ∈ ds, fitN n d) : fitN (n + 1) (.lst ds) := ⟨(fit_all h).1, Nat.succ_le_succ (fit_all h).2⟩
theorem fit_tup {n : Nat} {ds : List D} (h : ∀ d ∈ ds, fitN n d) : fitN (n + 1) (.tup ds) := ⟨(fit_all h).1, Nat.succ_le_succ (fit_all h).2⟩
theorem cmpOk_of {n : Nat} {a b : D} (ha : fitN n a) (hb : fitN n b) (hn : n ≤ 60) : cmpOk a b = true := by
  unfold cmpOk
  rw [ha.1, hb.1, decide_eq_true (by have := ha.2; omega)]
  rfl
theorem eqv_refl {d : D} (h : d.py.plain = true) : D.eqv d d = true := PySem.SeqAt.eqv_refl_plain _ h
theorem opNe_self {n : Nat} {d : D} (h : fitN n d) (hn : n ≤ 60) : opNe d d = some (.bl false) := by
  unfold opNe
  rw [if_pos (cmpOk_of h h hn), eqv_refl h.1]
  rfl
theorem opEq_self {n : Nat} {d : D} (h : fitN n d) (hn : n ≤ 60) : opEq d d = some (.bl true) := by
  unfold opEq
  rw [if_pos (cmpOk_of h h hn), eqv_refl h.1]
/-! ### comprehensions -/
theorem lcD_map {α : Type} {i : Nat} {p : Env → Option Bool} {elt : Ev} {δ : Env} {enc : α → D} {P : α → Bool} {g : α → D} : ∀ {xs : List α}, (∀ x ∈ xs, p (δ.set i (some (enc x))) = some (P x)) → (∀ x ∈ xs, P x = true → elt (δ.set i (some (enc x))) = some (g x)) →
    lcD (hName i) p elt δ (xs.map enc) = some ((xs.filter P).map g)
  | [], _, _ => rfl
  | x :: xs, h1, h2 => by
    have ih := lcD_map (xs := xs) (fun y hy => h1 y (List.mem_cons_of_mem _ hy)) (fun y hy => h2 y (List.mem_cons_of_mem _ hy))
    show ((hName i (enc x) δ).bind fun δ1 => (p δ1).bind fun b => if b = true then (elt δ1).bind fun y => (lcD (hName i) p elt δ (xs.map enc)).map (y :: ·) else lcD (hName i) p elt δ (xs.map enc)) = _
    rw [hName_def, Option.bind_some, h1 x List.mem_cons_self, Option.bind_some, ih]
    cases q : P x with
    | true => rw [if_pos rfl, h2 x List.mem_cons_self q, List.filter_cons_of_pos q]; rfl
    | false => rw [if_neg Bool.false_ne_true, List.filter_cons_of_neg (by rw [q]; exact Bool.false_ne_true)]
/-- no test -/
theorem lcD_map' {α : Type} {i : Nat} {elt : Ev} {δ : Env} {enc : α → D} {g : α → D} {xs : List α} (h2 : ∀ x ∈ xs, elt (δ.set i (some (enc x))) = some (g x)) : lcD (hName i) tsYes elt δ (xs.map enc) = some (xs.map g) := by
  have h := lcD_map (p := tsYes) (P := fun _ => true) (i := i) (δ := δ) (enc := enc) (xs := xs) (fun _ _ => rfl) (fun x hx _ => h2 x hx)
  rw [h, List.filter_eq_self.mpr (fun _ _ => rfl)]
/-- each element is of a kind -/
theorem lcD_each {β : Type} {set : Hv} {elt : Ev} {δ : Env} {enc : β → D} : ∀ {ds : List D}, (∀ d ∈ ds, ∃ δ1, set d δ = some δ1 ∧ ∃ y : β, elt δ1 = some (enc y)) → ∃ ys : List β, lcD set tsYes elt δ ds = some (ys.map enc) ∧ ys.length = ds.length
  | [], _ => ⟨[], rfl, rfl⟩
  | d :: ds, h => by
    obtain ⟨ys, e, l⟩ := lcD_each (ds := ds) fun x hx => h x (List.mem_cons_of_mem _ hx)
    obtain ⟨δ1, e1, y, e2⟩ := h d List.mem_cons_self
    refine ⟨y :: ys, ?_, by rw [List.length_cons, List.length_cons, l]⟩
    show ((set d δ).bind fun δ1 => (tsYes δ1).bind fun b => if b = true then (elt δ1).bind fun y => (lcD set tsYes elt δ ds).map (y :: ·) else lcD set tsYes elt δ ds) = _
    rw [e1, Option.bind_some, tsYes_def, Option.bind_some, if_pos rfl, e2, Option.bind_some, e]
    rfl
theorem mem_rngD {lo : Int} {n : Nat} {d : D} (h : d ∈ rngD lo n) : ∃ k : Int, d = .int k ∧ lo ≤ k ∧ k < lo + n := by
  unfold rngD at h
  obtain ⟨i, hi, e⟩ := List.mem_map.mp h
  have := List.mem_range.mp hi
  exact ⟨lo + i, e.symm, by omega, by omega⟩
/-! ### loops -/
theorem forD_sim {α σ : Type} {set : Hv} {body : Sv} {enc : α → D} (R : σ → Env → Prop) (step : σ → α → σ) : ∀ {xs : List α} {s : σ} {δ : Env}, R s δ → (∀ s δ x, x ∈ xs → R s δ → ∃ δ1 δ2, set (enc x) δ = some δ1 ∧ body δ1 = some (.nx δ2) ∧ R (step s x) δ2) →
    ∃ δ', forD set body (xs.map enc) δ = some (.nx δ') ∧ R (xs.foldl step s) δ'
  | [], s, δ, r, _ => ⟨δ, rfl, r⟩
  | x :: xs, s, δ, r, h => by
    obtain ⟨δ1, δ2, e1, e2, r2⟩ := h s δ x List.mem_cons_self r
    obtain ⟨δ', e3, r3⟩ := forD_sim R step (xs := xs) r2 fun s δ y hy => h s δ y (List.mem_cons_of_mem _ hy)
    refine ⟨δ', ?_, r3⟩
    show ((set (enc x) δ).bind fun δ1 => (body δ1).bind fun o => match o with | .nx δ2 => forD set body (xs.map enc) δ2 | o => some o) = _
    rw [e1, Option.bind_some, e2]
    exact e3
theorem denOf_some {n np : Nat} {rm : Mode} {s : Sv} {ds : List D} {d : D} (hl : ds.length = np) (h : s (ds.map some ++ List.replicate (n - np) none) = some (.rt d)) : denOf n np rm s ds = some d := by
  unfold denOf
  rw [if_pos hl, h]
  rfl

theorem eqv_nil : ∀ {ds : List D}, D.eqv (.lst ds) (.lst []) = ds.isEmpty
  | [] => rfl
  | d :: ds => rfl
theorem cmpOk_nil {n : Nat} {ds : List D} (h : ∀ d ∈ ds, fitN n d) : cmpOk (.lst ds) (.lst []) = true := by
  unfold cmpOk
  rw [(fit_lst h).1, show (D.lst []).py.plain = true from rfl, decide_eq_true (by show min _ 1 ≤ 60; omega)]
  rfl
theorem opNe_nil {n : Nat} {ds : List D} (h : ∀ d ∈ ds, fitN n d) : opNe (.lst ds) (.lst []) = some (.bl (!ds.isEmpty)) := by
  unfold opNe
  rw [if_pos (cmpOk_nil h), eqv_nil]
theorem opEq_nil {n : Nat} {ds : List D} (h : ∀ d ∈ ds, fitN n d) : opEq (.lst ds) (.lst []) = some (.bl ds.isEmpty) := by
  unfold opEq
  rw [if_pos (cmpOk_nil h), eqv_nil]
theorem intsOf_map (xs : List Int) : intsOf (xs.map D.int) = some xs := by
  induction xs with
  | nil => rfl
  | cons x xs ih => show (intsOf (xs.map D.int)).map (x :: ·) = _; rw [ih]; rfl
theorem opMin_ints {xs : List Int} (h : xs ≠ []) : opMin [.lst (xs.map D.int)] = some (.int (minL xs)) := by
  show (intsOf (xs.map D.int)).bind _ = _
  rw [intsOf_map, Option.bind_some, if_neg h]
theorem opMax_ints {xs : List Int} (h : xs ≠ []) : opMax [.lst (xs.map D.int)] = some (.int (maxL xs)) := by
  show (intsOf (xs.map D.int)).bind _ = _
  rw [intsOf_map, Option.bind_some, if_neg h]
theorem opNe_ints (xs : List Int) : opNe (.lst (xs.map D.int)) (.lst []) = some (.bl (!xs.isEmpty)) := by
  rw [opNe_nil (n := 0) (fun d hd => by obtain ⟨x, _, rfl⟩ := List.mem_map.mp hd; exact fit_int _ _)]
  cases xs <;> rfl
@[simp] theorem opNe_nil_nil : opNe (.lst []) (.lst []) = some (.bl false) := opNe_self (n := 1) ⟨rfl, Nat.le_refl _⟩ (by decide)
@[simp] theorem opEq_nil_nil : opEq (.lst []) (.lst []) = some (.bl true) := opEq_self (n := 1) ⟨rfl, Nat.le_refl _⟩ (by decide)
@[simp] theorem opIsi_ty (d : D) (n : String) : opIsi [d, .ty n] = (tyName d).bind fun a => if kitB a n = some (isiB a n) then some (.bl (isiB a n)) else none := rfl
@[simp] theorem kit_int_int : kitB "int" "int" = some true := by decide +kernel
@[simp] theorem kit_int_bool : kitB "int" "bool" = some false := by decide +kernel
@[simp] theorem kit_bool_int : kitB "bool" "int" = some true := by decide +kernel
@[simp] theorem kit_bool_bool : kitB "bool" "bool" = some true := by decide +kernel
@[simp] theorem kit_str_str : kitB "str" "str" = some true := by decide +kernel
@[simp] theorem kit_str_int : kitB "str" "int" = some false := by decide +kernel
@[simp] theorem kit_str_bool : kitB "str" "bool" = some false := by decide +kernel
@[simp] theorem kit_tup_tup : kitB "tuple" "tuple" = some true := by decide +kernel
@[simp] theorem kit_lst_lst : kitB "list" "list" = some true := by decide +kernel
@[simp] theorem isi_int_int : isiB "int" "int" = true := by decide +kernel
@[simp] theorem isi_int_bool : isiB "int" "bool" = false := by decide +kernel
@[simp] theorem isi_bool_int : isiB "bool" "int" = true := by decide +kernel
@[simp] theorem isi_bool_bool : isiB "bool" "bool" = true := by decide +kernel
@[simp] theorem isi_str_str : isiB "str" "str" = true := by decide +kernel
@[simp] theorem isi_str_int : isiB "str" "int" = false := by decide +kernel
@[simp] theorem isi_str_bool : isiB "str" "bool" = false := by decide +kernel
@[simp] theorem isi_tup_tup : isiB "tuple" "tuple" = true := by decide +kernel
@[simp] theorem isi_lst_lst : isiB "list" "list" = true := by decide +kernel
@[simp] theorem tyName_int (i : Int) : tyName (.int i) = some "int" := rfl
@[simp] theorem tyName_str (i : Str) : tyName (.str i) = some "str" := rfl
@[simp] theorem tyName_bl (i : Bool) : tyName (.bl i) = some "bool" := rfl
@[simp] theorem tyName_non : tyName .non = some "NoneType" := rfl
@[simp] theorem tyName_tup (i : List D) : tyName (.tup i) = some "tuple" := rfl
@[simp] theorem tyName_lst (i : List D) : tyName (.lst i) = some "list" := rfl
@[simp] theorem opList_lst (ds : List D) : opList [.lst ds] = some (.lst ds) := rfl
@[simp] theorem iRngF1_def (f : Env → Option (List D)) (δ : Env) : iRngF1 f δ = (f δ).bind fun ds => match ds with | [.int j] => if -1000000 ≤ j ∧ j ≤ 1000000 then some (rngD 0 j.toNat) else none | _ => none := rfl
@[simp] theorem vFmt_def (f : Ev) (δ : Env) : vFmt f δ = (f δ).bind fun d => match d with
  | .str x => some (.str x)
  | .int i => if i.natAbs.log2 < 1920 ∧ (intStr i).length ≤ sizeLine then some (.str (intStr i)) else none
  | _ => none := rfl
@[simp] theorem vJoined_def (fs : List Ev) (δ : Env) : vJoined fs δ = (vJ fs Str.empty δ).map D.str := rfl
@[simp] theorem vJ_nil (acc : Str) (δ : Env) : vJ [] acc δ = some acc := rfl
@[simp] theorem vJ_cons (f : Ev) (fs : List Ev) (acc : Str) (δ : Env) : vJ (f :: fs) acc δ = (f δ).bind fun d => match d with
    | .str y => if (acc ++ y).length ≤ sizeLine then vJ fs (acc ++ y) δ else none
    | _ => none := rfl
@[simp] theorem opStr_int (i : Int) : opStr [.int i] = if i.natAbs.log2 < 1920 ∧ (intStr i).length ≤ sizeLine then some (.str (intStr i)) else none := rfl

theorem intStr_fits {i : Int} (h : i.natAbs < 10 ^ 18) : i.natAbs.log2 < 1920 ∧ (intStr i).length ≤ 20 := by
  constructor
  · by_cases z : i.natAbs = 0
    · rw [z]; decide
    · exact Nat.lt_of_lt_of_le ((Nat.log2_lt z).mpr (Nat.lt_of_lt_of_le h (by decide : 10 ^ 18 ≤ 2 ^ 60))) (by decide)
  · have e := PySem.int_text_length_le10 (a := i) (k := 18) (by decide) h
    show (Str.ofString (toString i)).length ≤ 20
    rw [PySem.ofString_length]; omega
theorem empty_app (s : Str) : Str.empty ++ s = s := by
  show (⟨#[] ++ s.cps⟩ : Str) = s
  rw [Array.empty_append]
theorem small_le {n : Nat} (h : n ≤ 1000) : n ≤ sizeLine := le1000 h
theorem at_one (x : Str) (c i : Nat) : PySem.StrLaws.At x ⟨#[c]⟩ x.length i ↔ x.cps.toList[i]? = some c := by
  have hl : (⟨#[c]⟩ : Str).length = 1 := rfl
  have e2 : (Builtin.Str.subAt x ⟨#[c]⟩ i = true) ↔ (x.cps.toList.drop i).take 1 = [c] := by
    rw [PySem.StrLaws.subAt_eq]
    show ((x.cps.toList.drop i).take 1 == [c]) = true ↔ _
    rw [beq_iff_eq]
  have e3 : (x.cps.toList.drop i).take 1 = [c] ↔ x.cps.toList[i]? = some c := by
    rw [← List.head?_drop]
    cases x.cps.toList.drop i with
    | nil => simp
    | cons a l => simp
  constructor
  · intro h; exact e3.mp (e2.mp h.2)
  · intro h
    refine ⟨?_, e2.mpr (e3.mpr h)⟩
    have := (List.getElem?_eq_some_iff.mp h).1
    rw [hl]
    show i + 1 ≤ x.cps.size
    exact Nat.succ_le_of_lt (by simpa using this)
theorem find_one (x : Str) (c : Nat) : (∃ i : Nat, Txt.find x ⟨#[c]⟩ = (i : Int) ∧ x.cps.toList[i]? = some c ∧ ∀ k, k < i → x.cps.toList[k]? ≠ some c) ∨ (Txt.find x ⟨#[c]⟩ = -1 ∧ c ∉ x.cps.toList) := by
  unfold Txt.find
  rcases PySem.StrLaws.occ_head x ⟨#[c]⟩ 1 (by decide) with ⟨h0, hn⟩ | ⟨i, r, h0, ha, hn⟩
  · right
    rw [h0]
    refine ⟨rfl, fun hm => ?_⟩
    obtain ⟨i, hi⟩ := List.getElem?_of_mem hm
    exact hn i ((at_one x c i).mpr hi)
  · left
    rw [h0]
    exact ⟨i, rfl, (at_one x c i).mp ha, fun k hk z => hn k hk ((at_one x c k).mpr z)⟩

/-- a search: it hands back at the first that is so -/
theorem forD_search {α : Type} {set : Hv} {body : Sv} {enc : α → D} (R : Env → Prop) (test : α → Bool) (val : α → D) : ∀ {xs : List α} {δ : Env}, R δ → (∀ δ x, x ∈ xs → R δ → ∃ δ1, set (enc x) δ = some δ1 ∧ (test x = true → body δ1 = some (.rt (val x))) ∧ (test x = false → ∃ δ2, body δ1 = some (.nx δ2) ∧ R δ2)) →
    (∀ x, xs.find? test = some x → forD set body (xs.map enc) δ = some (.rt (val x))) ∧ (xs.find? test = none → ∃ δ', forD set body (xs.map enc) δ = some (.nx δ') ∧ R δ')
  | [], δ, r, _ => ⟨fun x h => by simp at h, fun _ => ⟨δ, rfl, r⟩⟩
  | x :: xs, δ, r, h => by
    obtain ⟨δ1, e1, h1, h2⟩ := h δ x List.mem_cons_self r
    have eq : forD set body ((x :: xs).map enc) δ = (body δ1).bind fun o => match o with | .nx δ2 => forD set body (xs.map enc) δ2 | o => some o := by
      show ((set (enc x) δ).bind fun δ1 => (body δ1).bind fun o => match o with | .nx δ2 => forD set body (xs.map enc) δ2 | o => some o) = _
      rw [e1]; rfl
    rw [eq]
    cases q : test x with
    | true =>
      rw [List.find?_cons_of_pos q, h1 q]
      exact ⟨fun y hy => by cases hy; rfl, fun z => by cases z⟩
    | false =>
      obtain ⟨δ2, e2, r2⟩ := h2 q
      rw [List.find?_cons_of_neg (by rw [q]; exact Bool.false_ne_true), e2]
      exact forD_search R test val (xs := xs) r2 fun δ y hy => h δ y (List.mem_cons_of_mem _ hy)
theorem rngD_def (lo : Int) (n : Nat) : rngD lo n = (List.range n).map fun (i : Nat) => D.int (lo + (i : Int)) := rfl
@[simp] theorem sPar_def (i j : Nat) (f : Env → Option (List D)) (δ : Env) : sPar i j f δ = (f δ).bind fun ds => match ds with
  | [d, e] => some (.nx ((δ.set i (some d)).set j (some e)))
  | _ => none := rfl
@[simp] theorem vM_def (op : Str → List D → Option D) (f : Ev) (g : Env → Option (List D)) (δ : Env) : vM op f g δ = (f δ).bind fun a => (g δ).bind fun ds => match a with | .str x => op x ds | _ => none := rfl
@[simp] theorem vM0_def (op : Str → List D → Option D) (f : Ev) (δ : Env) : vM0 op f δ = (f δ).bind fun a => match a with | .str x => op x [] | _ => none := rfl
@[simp] theorem mFind_s (x y : Str) : mFind x [.str y] = some (.int (Txt.find x y)) := rfl
@[simp] theorem opSl_str (z : Str) (lo hi : Option Int) : opSl (.str z) lo hi = some (.str ⟨(cutD z.cps.toList lo hi).toArray⟩) := rfl
@[simp] theorem opSl_lst (z : List D) (lo hi : Option Int) : opSl (.lst z) lo hi = some (.lst (cutD z lo hi)) := rfl
theorem mulOk_r (i : Int) {j : Int} (h : -(2 ^ 64) < j ∧ j < 2 ^ 64) : mulOk i j = true := by
  unfold mulOk
  simp only [decide_eq_true h.1, decide_eq_true h.2, Bool.and_self, Bool.or_true]
theorem mulOk_l {i : Int} (j : Int) (h : -(2 ^ 64) < i ∧ i < 2 ^ 64) : mulOk i j = true := by
  unfold mulOk
  simp only [decide_eq_true h.1, decide_eq_true h.2, Bool.and_self, Bool.true_or]

/-! ### slices, signs -/
theorem cutD_to {α : Type} (xs : List α) (k : Nat) : cutD xs none (some (k : Int)) = xs.take k := by
  unfold cutD
  rw [HT.sIx_none, HT.sIx_nat, List.drop_zero, Nat.sub_zero]
  by_cases h : k ≤ xs.length
  · rw [Nat.min_eq_left h]
  · rw [Nat.min_eq_right (by omega), List.take_length, List.take_of_length_le (by omega)]
theorem cutD_from {α : Type} (xs : List α) (k : Nat) : cutD xs (some (k : Int)) none = xs.drop k := by
  unfold cutD
  rw [HT.sIx_none, HT.sIx_nat]
  by_cases h : k ≤ xs.length
  · rw [Nat.min_eq_left h, List.take_of_length_le (by rw [List.length_drop]; omega)]
  · rw [Nat.min_eq_right (by omega), List.drop_of_length_le (by omega), List.drop_of_length_le (by omega), List.take_nil]
theorem cutD_to1 {α : Type} (xs : List α) : cutD xs none (some 1) = xs.take 1 := cutD_to xs 1
theorem cutD_from1 {α : Type} (xs : List α) : cutD xs (some 1) none = xs.drop 1 := cutD_from xs 1
theorem strIn_one (c : Nat) (x : Str) : strIn ⟨#[c]⟩ x = decide (c ∈ x.cps.toList) := by
  unfold strIn
  rcases PySem.StrLaws.occ_head x ⟨#[c]⟩ 1 (by decide) with ⟨h0, hn⟩ | ⟨i, r, h0, ha, hn⟩
  · rw [h0, decide_eq_false]
    · rfl
    · intro hm
      obtain ⟨i, hi⟩ := List.getElem?_of_mem hm
      exact hn i ((at_one x c i).mpr hi)
  · rw [h0, decide_eq_true]
    · rfl
    · exact List.mem_of_getElem? ((at_one x c i).mp ha)
theorem str_beq (a b : Str) : (a == b) = decide (a.cps.toList = b.cps.toList) := by
  by_cases h : a.cps.toList = b.cps.toList
  · rw [decide_eq_true h]
    have : a = b := by
      obtain ⟨x⟩ := a
      obtain ⟨y⟩ := b
      congr 1
      exact Array.ext' h
    rw [this]
    exact beq_self_eq_true _
  · rw [decide_eq_false h]
    exact beq_eq_false_iff_ne.mpr fun z => h (by rw [z])
theorem str_length (t : Str) : t.length = t.cps.toList.length := by simp [Str.length]
@[simp] theorem opIn_ss (a b : Str) : opIn (.str a) (.str b) = some (.bl (strIn a b)) := rfl
@[simp] theorem opNin_ss (a b : Str) : opNin (.str a) (.str b) = some (.bl (!strIn a b)) := rfl
@[simp] theorem opInt_str (x : Str) : opInt [.str x] = if x.length ≤ 640 then (PySem.intText? x).map D.int else none := rfl
@[simp] theorem opInt_int (x : Int) : opInt [.int x] = some (.int x) := rfl
theorem signs_def (x : Str) : signs x = x.cps.toList.map fun c => D.str ⟨#[c]⟩ := rfl
theorem intStr_big {i : Int} (h : i.natAbs < 10 ^ 60) : i.natAbs.log2 < 1920 ∧ (intStr i).length ≤ sizeLine := by
  constructor
  · by_cases z : i.natAbs = 0
    · rw [z]; decide
    · exact Nat.lt_of_lt_of_le ((Nat.log2_lt z).mpr (Nat.lt_of_lt_of_le h (by decide : 10 ^ 60 ≤ 2 ^ 200))) (by decide)
  · have e := PySem.int_text_length_le10 (a := i) (k := 60) (by decide) h
    refine le1000 ?_
    show (Str.ofString (toString i)).length ≤ 1000
    rw [PySem.ofString_length]; omega
@[simp] theorem vDict_def (h : Env → Option (List (Key × D))) (δ : Env) : vDict h δ = (h δ).bind fun ps => if ps.length ≤ 15 then some (.dicK (mergeD [] ps)) else none := rfl
@[simp] theorem pNil_def (δ : Env) : pNil δ = some [] := rfl
@[simp] theorem pCons_def (f g : Ev) (h : Env → Option (List (Key × D))) (δ : Env) : pCons f g h δ = (f δ).bind fun a => (keyD a).bind fun k => (g δ).bind fun d => (h δ).map ((k, d) :: ·) := rfl
@[simp] theorem keyD_int (i : Int) : keyD (.int i) = some (.inl i) := rfl
@[simp] theorem keyD_str (i : Str) : keyD (.str i) = some (.inr i) := rfl
@[simp] theorem sPut_def (i : Nat) (fk fv : Ev) (δ : Env) : sPut i fk fv δ = (fv δ).bind fun d => (fk δ).bind fun k => (vVar i δ).bind fun o => (opPut o k d).map fun o' => .nx (δ.set i (some o')) := rfl
@[simp] theorem sApp_def (i : Nat) (f : Ev) (δ : Env) : sApp i f δ = (vVar i δ).bind fun l => match l with
  | .lst ds => (f δ).bind fun d => if ds.length < sizeLine then some (putL i δ (ds ++ [d])) else none
  | _ => none := rfl
@[simp] theorem putL_def (i : Nat) (δ : Env) (ds : List D) : putL i δ ds = .nx (δ.set i (some (.lst ds))) := rfl

/-! ### join -/
theorem fold_len (g : Array Nat) : ∀ (ps : List Str) (a : Array Nat), (ps.foldl (fun acc p => acc ++ g ++ p.cps) a).size = a.size + (ps.map (·.length)).sum + ps.length * g.size
  | [], a => by simp
  | p :: ps, a => by
    rw [List.foldl_cons, fold_len g ps, List.map_cons, List.sum_cons, List.length_cons, Nat.succ_mul, Array.size_append, Array.size_append]
    show a.size + g.size + p.cps.size + _ + _ = a.size + (p.cps.size + _) + _
    omega
theorem join_len (x : Str) : ∀ ys : List Str, (Txt.join x ys).length ≤ (ys.map (·.length)).sum + ys.length * x.length
  | [] => Nat.zero_le _
  | y :: ys => by
    show (ys.foldl (fun acc p => acc ++ x.cps ++ p.cps) y.cps).size ≤ _
    rw [fold_len, List.map_cons, List.sum_cons, List.length_cons, Nat.succ_mul]
    show y.cps.size + _ + ys.length * x.cps.size ≤ y.cps.size + _ + (ys.length * x.cps.size + x.cps.size)
    omega
theorem fold_cps (ps : List Str) : ∀ (a : Array Nat), (ps.foldl (fun acc p => acc ++ (#[] : Array Nat) ++ p.cps) a).toList = a.toList ++ (ps.map (·.cps.toList)).flatten := by
  induction ps with
  | nil => intro a; simp
  | cons p ps ih => intro a; rw [List.foldl_cons, ih]; simp
/-- the signs of texts joined without a sign between -/
theorem join_empty (ys : List Str) : (Txt.join ("" : Str) ys).cps.toList = (ys.map (·.cps.toList)).flatten := by
  cases ys with
  | nil => rfl
  | cons y ys =>
    show (ys.foldl (fun acc p => acc ++ (#[] : Array Nat) ++ p.cps) y.cps).toList = _
    rw [fold_cps]
    simp
@[simp] theorem mJoin_lst (x : Str) (ds : List D) : mJoin x [.lst ds] = (strsOf ds).bind fun ys => if (ys.map (·.length)).sum + ys.length * x.length ≤ 16777216 ∧ (Txt.join x ys).length ≤ sizeLine then some (.str (Txt.join x ys)) else none := rfl
theorem strsOf_map : ∀ ys : List Str, strsOf (ys.map D.str) = some ys
  | [] => rfl
  | y :: ys => by
    show (strsOf (ys.map D.str)).map (y :: ·) = _
    rw [strsOf_map ys]; rfl
theorem mJoin_ok (x : Str) (ys : List Str) (h : (ys.map (·.length)).sum + ys.length * x.length ≤ 1000) : mJoin x [.lst (ys.map D.str)] = some (.str (Txt.join x ys)) := by
  rw [mJoin_lst, strsOf_map, Option.bind_some, if_pos]
  exact ⟨by omega, le1000 (Nat.le_trans (join_len x ys) h)⟩

/-! ### more loops -/
/-- a loop over a range, by the number of turns done -/
theorem forD_upto {set : Hv} {body : Sv} (R : Nat → Env → Prop) {n : Nat} (h : ∀ i δ, i < n → R i δ → ∃ δ1 δ2, set (.int (i : Int)) δ = some δ1 ∧ body δ1 = some (.nx δ2) ∧ R (i + 1) δ2) : ∀ (k s : Nat) (δ : Env), s + k = n → R s δ →
    ∃ δ', forD set body ((List.range' s k).map fun (i : Nat) => D.int (i : Int)) δ = some (.nx δ') ∧ R n δ'
  | 0, s, δ, e, r => ⟨δ, rfl, by
    have e2 : s = n := by omega
    subst e2
    exact r⟩
  | k + 1, s, δ, e, r => by
    obtain ⟨δ1, δ2, e1, e2, r2⟩ := h s δ (by omega) r
    obtain ⟨δ', e3, r3⟩ := forD_upto R h k (s + 1) δ2 (by omega) r2
    refine ⟨δ', ?_, r3⟩
    rw [List.range'_succ, List.map_cons]
    show ((set (.int (s : Int)) δ).bind fun δ1 => (body δ1).bind fun o => match o with | .nx δ2 => forD set body _ δ2 | o => some o) = _
    rw [e1, Option.bind_some, e2]
    exact e3
theorem forD_count {set : Hv} {body : Sv} (R : Nat → Env → Prop) {n : Nat} {δ : Env} (r : R 0 δ) (h : ∀ i δ, i < n → R i δ → ∃ δ1 δ2, set (.int (i : Int)) δ = some δ1 ∧ body δ1 = some (.nx δ2) ∧ R (i + 1) δ2) : ∃ δ', forD set body (rngD 0 n) δ = some (.nx δ') ∧ R n δ' := by
  have := forD_upto R h n 0 δ (by omega) r
  have e : rngD 0 n = (List.range' 0 n).map fun (i : Nat) => D.int (i : Int) := by
    rw [rngD_def, List.range_eq_range']
    simp
  rw [e]
  exact this
/-- a loop that hands back v at the first bad one, and else goes on -/
theorem forD_until {α σ : Type} {set : Hv} {body : Sv} {enc : α → D} {bad : α → Bool} {v : D} (R : σ → Env → Prop) (step : σ → α → σ) : ∀ {xs : List α} {s : σ} {δ : Env}, R s δ → (∀ s δ x, x ∈ xs → R s δ → ∃ δ1, set (enc x) δ = some δ1 ∧ (bad x = true → body δ1 = some (.rt v)) ∧ (bad x = false → ∃ δ2, body δ1 = some (.nx δ2) ∧ R (step s x) δ2)) →
    (xs.any bad = true → forD set body (xs.map enc) δ = some (.rt v)) ∧ (xs.any bad = false → ∃ δ', forD set body (xs.map enc) δ = some (.nx δ') ∧ R (xs.foldl step s) δ')
  | [], s, δ, r, _ => ⟨fun h => by simp at h, fun _ => ⟨δ, rfl, r⟩⟩
  | x :: xs, s, δ, r, h => by
    obtain ⟨δ1, e1, h1, h2⟩ := h s δ x List.mem_cons_self r
    have eq : forD set body ((x :: xs).map enc) δ = (body δ1).bind fun o => match o with | .nx δ2 => forD set body (xs.map enc) δ2 | o => some o := by
      show ((set (enc x) δ).bind fun δ1 => (body δ1).bind fun o => match o with | .nx δ2 => forD set body (xs.map enc) δ2 | o => some o) = _
      rw [e1]; rfl
    rw [eq, List.any_cons]
    cases q : bad x with
    | true =>
      rw [h1 q]
      exact ⟨fun _ => rfl, fun z => by cases z⟩
    | false =>
      obtain ⟨δ2, e2, r2⟩ := h2 q
      rw [e2]
      have ih := forD_until R step (xs := xs) r2 fun s δ y hy => h s δ y (List.mem_cons_of_mem _ hy)
      exact ⟨fun z => ih.1 (by simpa using z), fun z => ih.2 (by simpa using z)⟩
/-! ### tables -/
def tab (m : Nat) (g : Nat → D) : List D := (List.range m).map g
@[simp] theorem tab_len (m : Nat) (g : Nat → D) : (tab m g).length = m := by simp [tab]
theorem tab_at {m x : Nat} {g : Nat → D} (h : x < m) : atI (tab m g) (x : Int) = some (g x) := atI_nat (by simp [tab, h])
theorem tab_succ (m : Nat) (g : Nat → D) : tab (m + 1) g = tab m g ++ [g m] := by simp [tab, List.range_succ]
theorem tab_congr {m : Nat} {g g' : Nat → D} (h : ∀ i, i < m → g i = g' i) : tab m g = tab m g' := List.map_congr_left fun i hi => h i (List.mem_range.mp hi)
theorem tab_set {m i : Nat} {g : Nat → D} {d : D} (h : i < m) : (tab m g).set i d = tab m fun j => if j = i then d else g j := by
  apply List.ext_getElem?
  intro j
  by_cases c : i = j
  · subst c
    rw [List.getElem?_set_self (by simp [h])]
    simp [tab, h]
  · rw [List.getElem?_set_ne c]
    unfold tab
    rw [List.getElem?_map, List.getElem?_map]
    cases q : (List.range m)[j]? with
    | none => rfl
    | some k =>
      have : k = j := by
        rw [List.getElem?_range (by have := (List.getElem?_eq_some_iff.mp q).1; simpa using this)] at q
        exact (Option.some.inj q).symm
      subst this
      show some (g k) = some (if k = i then d else g k)
      rw [if_neg (fun e => c e.symm)]
theorem opPut_lst {ds : List D} {i : Nat} {d : D} (h : i < ds.length) : opPut (.lst ds) (.int (i : Int)) d = some (.lst (ds.set i d)) := by
  show (ixN ds.length (i : Int)).map (fun j => D.lst (ds.set j d)) = _
  have e : ixN ds.length (i : Int) = some i := by
    unfold ixN
    rw [if_pos (by omega), if_pos (by omega)]
    simp
  rw [e]; rfl
/-- numbers -/
def nats (xs : List Nat) : List D := xs.map fun (x : Nat) => D.int (x : Int)
@[simp] theorem nats_len (xs : List Nat) : (nats xs).length = xs.length := by simp [nats]
theorem fit_nats (xs : List Nat) (n : Nat) : ∀ d ∈ nats xs, fitN n d := fun d hd => by
  obtain ⟨x, _, rfl⟩ := List.mem_map.mp hd
  exact fit_int _ _
theorem opIn_nats (x : Nat) (xs : List Nat) : opIn (.int (x : Int)) (.lst (nats xs)) = some (.bl (decide (x ∈ xs))) := by
  show (if cmpOk (.lst (nats xs)) (.int (x : Int)) = true then some ((nats xs).any fun y => D.eqv y (.int (x : Int))) else none).map D.bl = _
  rw [if_pos (cmpOk_of (n := 1) (fit_lst (fit_nats xs 0)) (fit_int _ _) (by decide)), Option.map_some]
  congr 2
  apply Bool.eq_iff_iff.mpr
  rw [List.any_eq_true, decide_eq_true_iff]
  constructor
  · rintro ⟨d, hd, e⟩
    obtain ⟨y, hy, rfl⟩ := List.mem_map.mp hd
    have : ((y : Int) == (x : Int)) = true := e
    have : y = x := by have := beq_iff_eq.mp this; omega
    rw [← this]; exact hy
  · intro h
    exact ⟨.int x, List.mem_map.mpr ⟨x, h, rfl⟩, beq_self_eq_true (x : Int)⟩
@[simp] theorem vSortSet_def (f : Ev) (δ : Env) : vSortSet f δ = (f δ).bind fun d => match d with
  | .lst ds => (intsOf ds).bind fun ns => if ns.length < 64 then some (.lst ((setSort ns).map D.int)) else none
  | _ => none := rfl
theorem nats_ints (xs : List Nat) : nats xs = (xs.map fun (x : Nat) => (x : Int)).map D.int := by simp [nats]
theorem eqv_pair (a b : Str) (i j : Int) : D.eqv (.tup [.str a, .int i]) (.tup [.str b, .int j]) = (a == b && i == j) := by
  show (a == b && (i == j && true)) = _
  rw [Bool.and_true]
theorem fit_pair (a : Str) (i : Int) : fitN 1 (.tup [.str a, .int i]) := fit_tup (n := 0) fun d hd => by
  rcases List.mem_cons.mp hd with rfl | hd
  · exact fit_str _ _
  · rw [List.mem_singleton.mp hd]; exact fit_int _ _
theorem opEq_pair (a b : Str) (i j : Int) : opEq (.tup [.str a, .int i]) (.tup [.str b, .int j]) = some (.bl (a == b && i == j)) := by
  unfold opEq
  rw [if_pos (cmpOk_of (fit_pair a i) (fit_pair b j) (by decide)), eqv_pair]
theorem opEq_non_pair (b : Str) (j : Int) : opEq .non (.tup [.str b, .int j]) = some (.bl false) := by
  unfold opEq
  rw [if_pos (cmpOk_of (n := 1) (fit_non 1) (fit_pair b j) (by decide))]
  rfl
end Dl
/-! L: a typed reading of the denotations. Values of Lean's own types, named; what is read typed is what the denotation tells. -/
namespace Dl
open PySem L2
/-! ### results of a block: goes on with a state, or hands back -/
inductive Ctl (σ ρ : Type) where
  | nx (v : σ) | rt (r : ρ)
/-- a name for a value -/
@[inline] def lett {α β : Type} (x : α) (K : α → β) : β := K x
theorem lett_def {α β : Type} (x : α) (K : α → β) : lett x K = K x := rfl
def bindC {σ ρ β : Type} (T : Option (Ctl σ ρ)) (K : σ → Option β) (R : ρ → β) : Option β := T.bind fun c => match c with | .nx v => K v | .rt r => some (R r)
@[simp] theorem bindC_none {σ ρ β : Type} (K : σ → Option β) (R : ρ → β) : bindC none K R = none := rfl
@[simp] theorem bindC_nx {σ ρ β : Type} (v : σ) (K : σ → Option β) (R : ρ → β) : bindC (some (.nx v)) K R = K v := rfl
@[simp] theorem bindC_rt {σ ρ β : Type} (r : ρ) (K : σ → Option β) (R : ρ → β) : bindC (some (.rt r)) K R = some (R r) := rfl
def foldT {σ α : Type} (B : σ → α → Option σ) : List α → σ → Option σ
  | [], v => some v
  | x :: xs, v => (B v x).bind fun v' => foldT B xs v'
def forT {σ α ρ : Type} (B : σ → α → Option (Ctl σ ρ)) : List α → σ → Option (Ctl σ ρ)
  | [], v => some (.nx v)
  | x :: xs, v => (B v x).bind fun c => match c with | .nx v' => forT B xs v' | .rt r => some (.rt r)
def whT {σ ρ : Type} (p : σ → Option Bool) (B : σ → Option (Ctl σ ρ)) : Nat → σ → Option (Ctl σ ρ)
  | 0, _ => none
  | n + 1, v => (p v).bind fun b => if b = true then (B v).bind fun c => match c with | .nx v' => whT p B n v' | .rt r => some (.rt r) else some (.nx v)
def whN {σ : Type} (p : σ → Option Bool) (B : σ → Option σ) : Nat → σ → Option σ
  | 0, _ => none
  | n + 1, v => (p v).bind fun b => if b = true then (B v).bind fun v' => whN p B n v' else some v
/-- a comprehension -/
def lcT {α β : Type} (P : α → Option Bool) (G : α → Option β) : List α → Option (List β)
  | [] => some []
  | x :: xs => (P x).bind fun b => if b = true then (G x).bind fun y => (lcT P G xs).bind fun ys => some (y :: ys) else lcT P G xs
def outF {σ ρ : Type} (E : σ → Env) (e : ρ → D) : Ctl σ ρ → Out
  | .nx v => .nx (E v)
  | .rt r => .rt (e r)
/-! ### encodings -/
def eL {α : Type} (e : α → D) (xs : List α) : D := .lst (xs.map e)
def eK {α : Type} (e : α → D) (xs : List α) : D := .ktup (xs.map e)
def eT1 {α : Type} (e1 : α → D) (p : α) : D := .tup [e1 p]
def eT2 {α β : Type} (e1 : α → D) (e2 : β → D) (p : α × β) : D := .tup [e1 p.1, e2 p.2]
def eT3 {α β γ : Type} (e1 : α → D) (e2 : β → D) (e3 : γ → D) (p : α × β × γ) : D := .tup [e1 p.1, e2 p.2.1, e3 p.2.2]
def eT4 {α β γ δ : Type} (e1 : α → D) (e2 : β → D) (e3 : γ → D) (e4 : δ → D) (p : α × β × γ × δ) : D := .tup [e1 p.1, e2 p.2.1, e3 p.2.2.1, e4 p.2.2.2]
def eT5 {α β γ δ ε : Type} (e1 : α → D) (e2 : β → D) (e3 : γ → D) (e4 : δ → D) (e5 : ε → D) (p : α × β × γ × δ × ε) : D := .tup [e1 p.1, e2 p.2.1, e3 p.2.2.1, e4 p.2.2.2.1, e5 p.2.2.2.2]
def eT6 {α β γ δ ε ζ : Type} (e1 : α → D) (e2 : β → D) (e3 : γ → D) (e4 : δ → D) (e5 : ε → D) (e6 : ζ → D) (p : α × β × γ × δ × ε × ζ) : D := .tup [e1 p.1, e2 p.2.1, e3 p.2.2.1, e4 p.2.2.2.1, e5 p.2.2.2.2.1, e6 p.2.2.2.2.2]
def eO {α : Type} (e : α → D) : Option α → D
  | none => .non
  | some x => e x
def eU : Unit → D := fun _ => .non
abbrev eD : D → D := fun d => d
def eS (ns : List Int) : D := .scr ns
def kI (i : Int) : Key := .inl i
def kS (s : Str) : Key := .inr s
def eDK {κ α : Type} (k : κ → Key) (e : α → D) (kvs : List (κ × α)) : D := .dicK (kvs.map fun p => (k p.1, e p.2))
def eDT {κ α : Type} (k : κ → List Key) (e : α → D) (kvs : List (κ × α)) : D := .dicT (kvs.map fun p => (k p.1, e p.2))
/-! ### judgements -/
section
variable {α β γ ρ σ : Type} {f g : Ev} {δ : Env} {e : α → D} {x : α} {T : Option α}
def EvP (f : Ev) (δ : Env) (e : α → D) (x : α) : Prop := f δ = some (e x)
def EvM (f : Ev) (δ : Env) (e : α → D) (T : Option α) : Prop := ∀ x, T = some x → f δ = some (e x)
def TsP (p : Env → Option Bool) (δ : Env) (c : Bool) : Prop := p δ = some c
def TsM (p : Env → Option Bool) (δ : Env) (T : Option Bool) : Prop := ∀ c, T = some c → p δ = some c
def St (s : Sv) (δ : Env) (g : β → Out) (T : Option β) : Prop := ∀ r, T = some r → s δ = some (g r)
def ItP (f : Env → Option (List D)) (δ : Env) (e : α → D) (xs : List α) : Prop := f δ = some (xs.map e)
def ItM (f : Env → Option (List D)) (δ : Env) (e : α → D) (T : Option (List α)) : Prop := ∀ xs, T = some xs → f δ = some (xs.map e)
/-- arguments, then what is done with them -/
def ArP (f : Env → Option (List D)) (δ : Env) (k : List D → Option D) (e : α → D) (x : α) : Prop := (f δ).bind k = some (e x)
def ArM (f : Env → Option (List D)) (δ : Env) (k : List D → Option D) (e : α → D) (T : Option α) : Prop := ∀ x, T = some x → (f δ).bind k = some (e x)
/-- what an operation tells, typed -/
def Tot2 (op : D → D → Option D) (e1 : α → D) (e2 : β → D) (e3 : γ → D) (o : α → β → γ) : Prop := ∀ a b, op (e1 a) (e2 b) = some (e3 (o a b))
def Par2 (op : D → D → Option D) (e1 : α → D) (e2 : β → D) (e3 : γ → D) (o : α → β → Option γ) : Prop := ∀ a b c, o a b = some c → op (e1 a) (e2 b) = some (e3 c)
theorem EvP.m (h : EvP f δ e x) : EvM f δ e (some x) := fun y q => by cases q; exact h
theorem TsP.m {p : Env → Option Bool} {c : Bool} (h : TsP p δ c) : TsM p δ (some c) := fun y q => by cases q; exact h
theorem ItP.m {p : Env → Option (List D)} {xs : List α} (h : ItP p δ e xs) : ItM p δ e (some xs) := fun y q => by cases q; exact h
theorem bind_eq {o : Option α} {K : α → Option β} {r : β} (h : o.bind K = some r) : ∃ a, o = some a ∧ K a = some r := by
  cases o with
  | none => cases h
  | some a => exact ⟨a, rfl, h⟩
/-! #### other types of the same value -/
theorem EvP.some (h : EvP f δ e x) : EvP f δ (eO e) (Option.some x) := h
theorem EvM.some (h : EvM f δ e T) : EvM f δ (eO e) (T.bind fun x => Option.some (Option.some x)) := fun y q => by
  obtain ⟨a, e1, e2⟩ := bind_eq q
  cases e2
  exact h a e1
theorem EvP.opt {x : Option α} (h : EvP f δ (eO e) x) : EvM f δ e x := fun y q => by subst q; exact h
theorem EvM.opt {T : Option (Option α)} (h : EvM f δ (eO e) T) : EvM f δ e (T.bind fun x => x) := fun y q => by
  obtain ⟨a, e1, e2⟩ := bind_eq q
  subst e2
  exact h _ e1
theorem EvP.dyn (h : EvP f δ e x) : EvP f δ eD (e x) := h
theorem EvM.dyn (h : EvM f δ e T) : EvM f δ eD (T.bind fun x => Option.some (e x)) := fun y q => by
  obtain ⟨a, e1, e2⟩ := bind_eq q
  cases e2
  exact h a e1
theorem EvP.map {e' : β → D} (c : α → β) (h : EvP f δ e x) (hc : ∀ a, e' (c a) = e a) : EvP f δ e' (c x) := by unfold EvP at *; rw [h, hc]
theorem EvM.map {e' : β → D} (c : α → β) (h : EvM f δ e T) (hc : ∀ a, e' (c a) = e a) : EvM f δ e' (T.bind fun x => Option.some (c x)) := fun y q => by
  obtain ⟨a, e1, e2⟩ := bind_eq q
  cases e2
  rw [hc]; exact h a e1
theorem EvP.cast {d : D} {c : D → Option α} (h : EvP f δ eD d) (hc : ∀ d a, c d = Option.some a → d = e a) : EvM f δ e (c d) := fun y q => by rw [← hc d y q]; exact h
theorem EvM.cast {T : Option D} {c : D → Option α} (h : EvM f δ eD T) (hc : ∀ d a, c d = Option.some a → d = e a) : EvM f δ e (T.bind c) := fun y q => by
  obtain ⟨a, e1, e2⟩ := bind_eq q
  rw [← hc a y e2]; exact h a e1
def cI : D → Option Int | .int i => some i | _ => none
def cS : D → Option Str | .str i => some i | _ => none
def cB : D → Option Bool | .bl i => some i | _ => none
theorem cI_ok : ∀ d a, cI d = some a → d = D.int a := fun d a h => by cases d <;> cases h; rfl
theorem cS_ok : ∀ d a, cS d = some a → d = D.str a := fun d a h => by cases d <;> cases h; rfl
theorem cB_ok : ∀ d a, cB d = some a → d = D.bl a := fun d a h => by cases d <;> cases h; rfl
def cLL (c : D → Option α) : List D → Option (List α)
  | [] => some []
  | d :: ds => (c d).bind fun a => (cLL c ds).bind fun as => some (a :: as)
def cL (c : D → Option α) : D → Option (List α) | .lst ds => cLL c ds | _ => none
theorem cLL_ok {c : D → Option α} (hc : ∀ d a, c d = some a → d = e a) : ∀ (ds : List D) (as : List α), cLL c ds = some as → ds = as.map e
  | [], as, h => by cases h; rfl
  | d :: ds, as, h => by
    obtain ⟨a, e1, e2⟩ := bind_eq h
    obtain ⟨bs, e3, e4⟩ := bind_eq e2
    cases e4
    rw [List.map_cons, ← cLL_ok hc ds bs e3, ← hc d a e1]
theorem cL_ok {c : D → Option α} (hc : ∀ d a, c d = some a → d = e a) : ∀ (d : D) (as : List α), cL c d = some as → d = eL e as := fun d as h => by
  cases d with
  | lst ds => unfold eL; rw [cLL_ok hc ds as h]
  | _ => cases h
theorem cLL_map {c : D → Option α} (hc : ∀ a, c (e a) = some a) : ∀ as : List α, cLL c (as.map e) = some as
  | [] => rfl
  | a :: as => by
    show (c (e a)).bind (fun a => (cLL c (as.map e)).bind fun as => some (a :: as)) = _
    rw [hc, Option.bind_some, cLL_map hc as]; rfl
@[simp] theorem cI_int (i : Int) : cI (.int i) = some i := rfl
@[simp] theorem cS_str (i : Str) : cS (.str i) = some i := rfl
@[simp] theorem cB_bl (i : Bool) : cB (.bl i) = some i := rfl
@[simp] theorem cL_eL {c : D → Option α} (hc : ∀ a, c (e a) = some a) (as : List α) : cL c (eL e as) = some as := cLL_map hc as
theorem eL_id (ds : List D) : eL eD ds = .lst ds := by unfold eL; rw [List.map_id']
theorem eL_map (xs : List α) : eL eD (xs.map e) = eL e xs := by unfold eL; rw [List.map_map]; rfl
end
/-! ### expressions -/
section
variable {α β γ ρ σ τ : Type} {f g h : Ev} {δ : Env} {e e1 : α → D} {e2 : β → D} {e3 : γ → D} {x : α} {y : β} {z : γ} {T : Option α} {U : Option β} {V : Option γ} {op op' : D → D → Option D} {c : Bool} {p q : Env → Option Bool} {P Q : Option Bool}
theorem lv (i : Nat) (hv : δ[i]? = some (some (e x)) := by rfl) : EvP (vVar i) δ e x := by unfold EvP; rw [vVar_def, hv]; rfl
theorem lc {d : D} (hd : e x = d := by rfl) : EvP (vC d) δ e x := by unfold EvP; rw [vC_def, hd]
theorem l2PP {o : α → β → γ} (h : Tot2 op e1 e2 e3 o) (a : EvP f δ e1 x) (b : EvP g δ e2 y) : EvP (v2 op f g) δ e3 (o x y) := by
  unfold EvP at *; rw [v2_def, a, Option.bind_some, b, Option.bind_some, h]
theorem l2MM {o : α → β → γ} (h : Tot2 op e1 e2 e3 o) (a : EvM f δ e1 T) (b : EvM g δ e2 U) : EvM (v2 op f g) δ e3 (T.bind fun a => U.bind fun b => some (o a b)) := fun r q => by
  obtain ⟨a', q1, q2⟩ := bind_eq q
  obtain ⟨b', q3, q4⟩ := bind_eq q2
  cases q4
  rw [v2_def, a _ q1, Option.bind_some, b _ q3, Option.bind_some, h]
theorem l2MP {o : α → β → γ} (h : Tot2 op e1 e2 e3 o) (a : EvM f δ e1 T) (b : EvP g δ e2 y) : EvM (v2 op f g) δ e3 (T.bind fun a => some (o a y)) := l2MM h a b.m
theorem l2PM {o : α → β → γ} (h : Tot2 op e1 e2 e3 o) (a : EvP f δ e1 x) (b : EvM g δ e2 U) : EvM (v2 op f g) δ e3 (U.bind fun b => some (o x b)) := l2MM h a.m b
theorem k2MM {o : α → β → Option γ} (h : Par2 op e1 e2 e3 o) (a : EvM f δ e1 T) (b : EvM g δ e2 U) : EvM (v2 op f g) δ e3 (T.bind fun a => U.bind fun b => o a b) := fun r q => by
  obtain ⟨a', q1, q2⟩ := bind_eq q
  obtain ⟨b', q3, q4⟩ := bind_eq q2
  rw [v2_def, a _ q1, Option.bind_some, b _ q3, Option.bind_some, h _ _ _ q4]
theorem k2MP {o : α → β → Option γ} (h : Par2 op e1 e2 e3 o) (a : EvM f δ e1 T) (b : EvP g δ e2 y) : EvM (v2 op f g) δ e3 (T.bind fun a => o a y) := k2MM h a b.m
theorem k2PM {o : α → β → Option γ} (h : Par2 op e1 e2 e3 o) (a : EvP f δ e1 x) (b : EvM g δ e2 U) : EvM (v2 op f g) δ e3 (U.bind fun b => o x b) := k2MM h a.m b
theorem k2PP {o : α → β → Option γ} (h : Par2 op e1 e2 e3 o) (a : EvP f δ e1 x) (b : EvP g δ e2 y) : EvM (v2 op f g) δ e3 (o x y) := k2MM h a.m b.m
/-! tests -/
theorem tvP (h : EvP f δ D.bl c) : TsP (vTst f) δ c := by unfold EvP at h; unfold TsP; rw [vTst_def, h]; rfl
theorem tvM (h : EvM f δ D.bl P) : TsM (vTst f) δ P := fun c q => by rw [vTst_def, h c q]; rfl
theorem andPP {d : Bool} (a : TsP p δ c) (b : TsP q δ d) : TsP (bAnd p q) δ (c && d) := by
  unfold TsP at *; rw [bAnd_def, a, Option.bind_some]; cases c <;> simp [b]
theorem andM (a : TsM p δ P) (b : TsM q δ Q) : TsM (bAnd p q) δ (P.bind fun c => if c = true then Q else some false) := fun r z => by
  obtain ⟨c, z1, z2⟩ := bind_eq z
  rw [bAnd_def, a c z1, Option.bind_some]
  cases c with
  | true => rw [if_pos rfl] at z2 ⊢; exact b r z2
  | false => rw [if_neg Bool.false_ne_true] at z2 ⊢; exact z2
theorem andPM (a : TsP p δ c) (b : TsM q δ Q) : TsM (bAnd p q) δ (if c = true then Q else some false) := andM a.m b
theorem orPP {d : Bool} (a : TsP p δ c) (b : TsP q δ d) : TsP (bOr p q) δ (c || d) := by
  unfold TsP at *; rw [bOr_def, a, Option.bind_some]; cases c <;> simp [b]
theorem orM (a : TsM p δ P) (b : TsM q δ Q) : TsM (bOr p q) δ (P.bind fun c => if c = true then some true else Q) := fun r z => by
  obtain ⟨c, z1, z2⟩ := bind_eq z
  rw [bOr_def, a c z1, Option.bind_some]
  cases c with
  | true => rw [if_pos rfl] at z2 ⊢; exact z2
  | false => rw [if_neg Bool.false_ne_true] at z2 ⊢; exact b r z2
theorem orPM (a : TsP p δ c) (b : TsM q δ Q) : TsM (bOr p q) δ (if c = true then some true else Q) := orM a.m b
theorem notP (a : TsP p δ c) : TsP (bNot p) δ (!c) := by unfold TsP at *; rw [bNot_def, a]; rfl
theorem notM (a : TsM p δ P) : TsM (bNot p) δ (P.bind fun c => some (!c)) := fun r z => by
  obtain ⟨c, z1, z2⟩ := bind_eq z
  cases z2
  rw [bNot_def, a c z1]; rfl
/-! .. as values -/
theorem vandPP {d : Bool} (a : EvP f δ D.bl c) (b : EvP g δ D.bl d) : EvP (vAnd f g) δ D.bl (c && d) := by
  unfold EvP at *; rw [vAnd_def, vTst_def, a]; cases c <;> simp [b]
theorem vandM (a : EvM f δ D.bl P) (b : EvM g δ D.bl Q) : EvM (vAnd f g) δ D.bl (P.bind fun c => if c = true then Q else some false) := fun r z => by
  obtain ⟨c, z1, z2⟩ := bind_eq z
  rw [vAnd_def, tvM a c z1, Option.bind_some]
  cases c with
  | true => rw [if_pos rfl] at z2 ⊢; exact b r z2
  | false => rw [if_neg Bool.false_ne_true] at z2 ⊢; cases z2; rfl
theorem vandPM (a : EvP f δ D.bl c) (b : EvM g δ D.bl Q) : EvM (vAnd f g) δ D.bl (if c = true then Q else some false) := vandM a.m b
theorem vorPP {d : Bool} (a : EvP f δ D.bl c) (b : EvP g δ D.bl d) : EvP (vOr f g) δ D.bl (c || d) := by
  unfold EvP at *; rw [vOr_def, vTst_def, a]; cases c <;> simp [b]
theorem vorM (a : EvM f δ D.bl P) (b : EvM g δ D.bl Q) : EvM (vOr f g) δ D.bl (P.bind fun c => if c = true then some true else Q) := fun r z => by
  obtain ⟨c, z1, z2⟩ := bind_eq z
  rw [vOr_def, tvM a c z1, Option.bind_some]
  cases c with
  | true => rw [if_pos rfl] at z2 ⊢; cases z2; rfl
  | false => rw [if_neg Bool.false_ne_true] at z2 ⊢; exact b r z2
theorem vorPM (a : EvP f δ D.bl c) (b : EvM g δ D.bl Q) : EvM (vOr f g) δ D.bl (if c = true then some true else Q) := vorM a.m b
theorem vnotP (a : EvP f δ D.bl c) : EvP (vNot f) δ D.bl (!c) := by unfold EvP at *; rw [vNot_def, vTst_def, a]; rfl
theorem vnotM (a : EvM f δ D.bl P) : EvM (vNot f) δ D.bl (P.bind fun c => some (!c)) := fun r z => by
  obtain ⟨c, z1, z2⟩ := bind_eq z
  cases z2
  rw [vNot_def, tvM a c z1]; rfl
theorem ifPPP {y : α} (c' : TsP p δ c) (a : EvP f δ e x) (b : EvP g δ e y) : EvP (vIf p f g) δ e (if c = true then x else y) := by
  unfold EvP TsP at *; rw [vIf_def, c', Option.bind_some]; cases c <;> simp [a, b]
theorem ifM {U : Option α} (c' : TsM p δ P) (a : EvM f δ e T) (b : EvM g δ e U) : EvM (vIf p f g) δ e (P.bind fun c => if c = true then T else U) := fun r z => by
  obtain ⟨c, z1, z2⟩ := bind_eq z
  rw [vIf_def, c' c z1, Option.bind_some]
  cases c with
  | true => rw [if_pos rfl] at z2 ⊢; exact a r z2
  | false => rw [if_neg Bool.false_ne_true] at z2 ⊢; exact b r z2
theorem ifPM {U : Option α} (c' : TsP p δ c) (a : EvM f δ e T) (b : EvM g δ e U) : EvM (vIf p f g) δ e (if c = true then T else U) := ifM c'.m a b
theorem negP {i : Int} (a : EvP f δ D.int i) : EvP (vNeg f) δ D.int (-i) := by unfold EvP at *; rw [vNeg_def, a]; rfl
theorem negM {I : Option Int} (a : EvM f δ D.int I) : EvM (vNeg f) δ D.int (I.bind fun i => some (-i)) := fun r z => by
  obtain ⟨c, z1, z2⟩ := bind_eq z
  cases z2
  rw [vNeg_def, a c z1]; rfl
/-! a < b < c -/
theorem chP {o : α → β → Bool} {o' : β → γ → Bool} (h1 : Tot2 op e1 e2 D.bl o) (h2 : Tot2 op' e2 e3 D.bl o') (a : EvP f δ e1 x) (b : EvP g δ e2 y) (c : EvP h δ e3 z) : EvP (vChain op op' f g h) δ D.bl (o x y && o' y z) := by
  unfold EvP at *
  rw [vChain_def, a, Option.bind_some, b, Option.bind_some, h1, Option.bind_some]
  cases o x y <;> simp [c, h2 y z]
theorem chM {o : α → β → Bool} {o' : β → γ → Bool} (h1 : Tot2 op e1 e2 D.bl o) (h2 : Tot2 op' e2 e3 D.bl o') (a : EvM f δ e1 T) (b : EvM g δ e2 U) (c : EvM h δ e3 V) : EvM (vChain op op' f g h) δ D.bl (T.bind fun x => U.bind fun y => if o x y = true then V.bind fun z => some (o' y z) else some false) := fun r q => by
  obtain ⟨x, q1, q2⟩ := bind_eq q
  obtain ⟨y, q3, q4⟩ := bind_eq q2
  rw [vChain_def, a _ q1, Option.bind_some, b _ q3, Option.bind_some, h1, Option.bind_some]
  cases w : o x y with
  | true =>
    rw [w, if_pos rfl] at q4
    obtain ⟨z, q5, q6⟩ := bind_eq q4
    cases q6
    simp [c _ q5, h2 y z]
  | false =>
    rw [w, if_neg Bool.false_ne_true] at q4
    cases q4
    simp
/-! arguments, calls -/
variable {fr : Env → Option (List D)} {k : List D → Option D}
theorem arPnil (h : k [] = some (e x)) : ArP aNil δ k e x := h
theorem arPcons (a : EvP f δ e2 y) (r : ArP fr δ (fun ds => k (e2 y :: ds)) e x) : ArP (aCons f fr) δ k e x := by
  unfold ArP EvP at *
  rw [aCons_def, a, Option.bind_some]
  rw [← r]
  cases fr δ <;> rfl
theorem arMnil (h : ∀ x, T = some x → k [] = some (e x)) : ArM aNil δ k e T := h
theorem arMconsP (a : EvP f δ e2 y) (r : ArM fr δ (fun ds => k (e2 y :: ds)) e T) : ArM (aCons f fr) δ k e T := fun x q => by
  have := r x q
  unfold EvP at a
  rw [aCons_def, a, Option.bind_some, ← this]
  cases fr δ <;> rfl
theorem arMconsM {K : β → Option α} (a : EvM f δ e2 U) (r : ∀ y, ArM fr δ (fun ds => k (e2 y :: ds)) e (K y)) : ArM (aCons f fr) δ k e (U.bind K) := fun x q => by
  obtain ⟨y, q1, q2⟩ := bind_eq q
  have := r y x q2
  rw [aCons_def, a _ q1, Option.bind_some, ← this]
  cases fr δ <;> rfl
theorem callP (h : ArP fr δ k e x) : EvP (vC1 k fr) δ e x := h
theorem callM (h : ArM fr δ k e T) : EvM (vC1 k fr) δ e T := h
def kTup (ds : List D) : Option D := if ds.length ≤ 1000 then some (.tup ds) else none
def kLst (ds : List D) : Option D := if ds.length ≤ 1000 then some (.lst ds) else none
theorem tupP (h : ArP fr δ kTup e x) : EvP (vTup fr) δ e x := h
theorem tupM (h : ArM fr δ kTup e T) : EvM (vTup fr) δ e T := h
theorem lstP (h : ArP fr δ kLst e x) : EvP (vLst fr) δ e x := h
theorem lstM (h : ArM fr δ kLst e T) : EvM (vLst fr) δ e T := h
/-- a method of a text -/
def kStr (op : Str → List D → Option D) (d : D) (ds : List D) : Option D := match d with | .str x => op x ds | _ => none
theorem vM_eq {op : Str → List D → Option D} {d : D} (h : f δ = some d) : vM op f fr δ = (fr δ).bind (kStr op d) := by
  rw [vM_def, h]; rfl
theorem smP {op : Str → List D → Option D} {s : Str} (a : EvP f δ D.str s) (r : ArP fr δ (op s) e x) : EvP (vM op f fr) δ e x := by
  unfold EvP at *; rw [vM_eq a]; exact r
theorem smMP {op : Str → List D → Option D} {s : Str} (a : EvP f δ D.str s) (r : ArM fr δ (op s) e T) : EvM (vM op f fr) δ e T := fun x q => by
  rw [vM_eq a]; exact r x q
theorem smMM {op : Str → List D → Option D} {S : Option Str} {K : Str → Option α} (a : EvM f δ D.str S) (r : ∀ s, ArM fr δ (op s) e (K s)) : EvM (vM op f fr) δ e (S.bind K) := fun x q => by
  obtain ⟨y, q1, q2⟩ := bind_eq q
  rw [vM_eq (a _ q1)]; exact r y x q2
theorem vM0_eq {op : Str → List D → Option D} : vM0 op f δ = vM op f aNil δ := by
  rw [vM0_def, vM_def]; rfl
theorem sm0P {op : Str → List D → Option D} (h : EvP (vM op f aNil) δ e x) : EvP (vM0 op f) δ e x := by unfold EvP at *; rw [vM0_eq]; exact h
theorem sm0M {op : Str → List D → Option D} (h : EvM (vM op f aNil) δ e T) : EvM (vM0 op f) δ e T := fun x q => by rw [vM0_eq]; exact h x q
/-- a field -/
theorem fldP {w : Str} {fs : List (Str × D)} (a : EvP f δ e1 x) (h1 : fldsD (e1 x) = some fs := by rfl) (h2 : fs.lookup w = some (e2 y) := by rfl) : EvP (vFld w f) δ e2 y := by
  unfold EvP at *
  rw [vFld_def, a, Option.bind_some, h1, Option.bind_some, h2]
theorem fldM {w : Str} {G : α → β} (a : EvM f δ e1 T) (h : ∀ x, (fldsD (e1 x)).bind (fun fs => fs.lookup w) = some (e2 (G x)) := by intro _; rfl) : EvM (vFld w f) δ e2 (T.bind fun x => some (G x)) := fun y q => by
  obtain ⟨x, q1, q2⟩ := bind_eq q
  cases q2
  rw [vFld_def, a _ q1, Option.bind_some, h]
/-- an own method -/
theorem meP {c m : Str} {den : List D → Option D} {e1 : β → D} {fs : List (Str × D)} (a : EvP f δ e1 y) (r : ArM fr δ (fun ds => den (e1 y :: ds)) e T) (h1 : e1 y = .ins c fs := by rfl) (h2 : fs.lookup m = none := by rfl) : EvM (vMeth c m den f fr) δ e T := fun x q => by
  have r' := r x q
  unfold EvP at a
  unfold vMeth
  rw [a, Option.bind_some, h1]
  rw [h1] at r'
  show (if c = c ∧ fs.lookup m = none then (fr δ).bind fun ds => den (.ins c fs :: ds) else none) = _
  rw [if_pos ⟨rfl, h2⟩]
  exact r'
theorem meM {c m : Str} {den : List D → Option D} {e1 : β → D} {K : β → Option α} (a : EvM f δ e1 U) (r : ∀ y, ArM fr δ (fun ds => den (e1 y :: ds)) e (K y)) (h : ∀ y, ∃ fs, e1 y = .ins c fs ∧ fs.lookup m = none := by exact fun _ => ⟨_, rfl, rfl⟩) : EvM (vMeth c m den f fr) δ e (U.bind K) := fun x q => by
  obtain ⟨y, q1, q2⟩ := bind_eq q
  obtain ⟨fs, h1, h2⟩ := h y
  have r' := r y x q2
  unfold vMeth
  rw [a _ q1, Option.bind_some, h1]
  rw [h1] at r'
  show (if c = c ∧ fs.lookup m = none then (fr δ).bind fun ds => den (.ins c fs :: ds) else none) = _
  rw [if_pos ⟨rfl, h2⟩]
  exact r'
/-! slices -/
def PtP (l : Env → Option (Option Int)) (δ : Env) (o : Option Int) : Prop := l δ = some o
def PtM (l : Env → Option (Option Int)) (δ : Env) (O : Option (Option Int)) : Prop := ∀ o, O = some o → l δ = some o
theorem PtP.m {l : Env → Option (Option Int)} {o : Option Int} (h : PtP l δ o) : PtM l δ (some o) := fun o q => by cases q; exact h
theorem ptN : PtP (fun _ => some none) δ none := rfl
theorem ptP {i : Int} (a : EvP f δ D.int i) : PtP (vPart f) δ (some i) := by unfold PtP EvP at *; rw [vPart_def, a]; rfl
theorem ptM {I : Option Int} (a : EvM f δ D.int I) : PtM (vPart f) δ (I.bind fun i => some (some i)) := fun o q => by
  obtain ⟨i, q1, q2⟩ := bind_eq q
  cases q2
  rw [vPart_def, a _ q1]; rfl
theorem slP {os : D → Option Int → Option Int → Option D} {l u : Env → Option (Option Int)} {lo hi : Option Int} {o : α → Option Int → Option Int → β} (h : ∀ a lo hi, os (e1 a) lo hi = some (e2 (o a lo hi))) (a : EvP f δ e1 x) (b : PtP l δ lo) (c : PtP u δ hi) : EvP (vSl os f l u) δ e2 (o x lo hi) := by
  unfold EvP PtP at *; rw [vSl_def, a, Option.bind_some, b, Option.bind_some, c, Option.bind_some, h]
theorem slM {os : D → Option Int → Option Int → Option D} {l u : Env → Option (Option Int)} {L H : Option (Option Int)} {o : α → Option Int → Option Int → β} (h : ∀ a lo hi, os (e1 a) lo hi = some (e2 (o a lo hi))) (a : EvM f δ e1 T) (b : PtM l δ L) (c : PtM u δ H) : EvM (vSl os f l u) δ e2 (T.bind fun x => L.bind fun lo => H.bind fun hi => some (o x lo hi)) := fun y q => by
  obtain ⟨x, q1, q2⟩ := bind_eq q
  obtain ⟨lo, q3, q4⟩ := bind_eq q2
  obtain ⟨hi, q5, q6⟩ := bind_eq q4
  cases q6
  rw [vSl_def, a _ q1, Option.bind_some, b _ q3, Option.bind_some, c _ q5, Option.bind_some, h]
/-! comprehensions -/
theorem lcT_ok {set : Hv} {pt : Env → Option Bool} {elt : Ev} {E' : α → Env} {Pf : α → Option Bool} {G : α → Option β} (hs : ∀ x, set (e x) δ = some (E' x)) (hp : ∀ x, TsM pt (E' x) (Pf x)) (hg : ∀ x, EvM elt (E' x) e2 (G x)) : ∀ (xs : List α) (ys : List β), lcT Pf G xs = some ys → lcD set pt elt δ (xs.map e) = some (ys.map e2)
  | [], ys, h => by cases h; rfl
  | x :: xs, ys, h => by
    obtain ⟨b, q1, q2⟩ := bind_eq h
    show ((set (e x) δ).bind fun δ1 => (pt δ1).bind fun b => if b = true then (elt δ1).bind fun y => (lcD set pt elt δ (xs.map e)).map (y :: ·) else lcD set pt elt δ (xs.map e)) = _
    rw [hs, Option.bind_some, hp x b q1, Option.bind_some]
    cases b with
    | true =>
      rw [if_pos rfl] at q2 ⊢
      obtain ⟨y, q3, q4⟩ := bind_eq q2
      obtain ⟨zs, q5, q6⟩ := bind_eq q4
      cases q6
      rw [hg x y q3, Option.bind_some, lcT_ok hs hp hg xs zs q5]
      rfl
    | false =>
      rw [if_neg Bool.false_ne_true] at q2 ⊢
      exact lcT_ok hs hp hg xs ys q2
theorem lcT_pure (Pf : α → Bool) (G : α → β) : ∀ xs : List α, lcT (fun x => some (Pf x)) (fun x => some (G x)) xs = some ((xs.filter Pf).map G)
  | [] => rfl
  | x :: xs => by
    show (some (Pf x)).bind (fun b => if b = true then (some (G x)).bind fun y => (lcT _ _ xs).bind fun ys => some (y :: ys) else lcT _ _ xs) = _
    rw [Option.bind_some, lcT_pure Pf G xs]
    cases q : Pf x with
    | true => rw [if_pos rfl, List.filter_cons_of_pos q]; rfl
    | false => rw [if_neg Bool.false_ne_true, List.filter_cons_of_neg (by rw [q]; exact Bool.false_ne_true)]
variable {it : Env → Option (List D)} {set : Hv} {pt : Env → Option Bool} {elt : Ev} {vs : List Nat} {E' : α → Env} {xs : List α} {X : Option (List α)}
theorem lcPP {Pf : α → Bool} {G : α → β} (hi : ItP it δ e xs) (hs : ∀ x, set (e x) (wipeE δ vs) = some (E' x)) (hp : ∀ x, TsP pt (E' x) (Pf x)) (hg : ∀ x, EvP elt (E' x) e2 (G x)) : EvP (vLc it set pt elt vs) δ (eL e2) ((xs.filter Pf).map G) := by
  unfold EvP ItP at *
  rw [vLc_def, hi, Option.bind_some, lcT_ok hs (fun x => (hp x).m) (fun x => EvP.m (hg x)) xs _ (lcT_pure Pf G xs)]
  rfl
theorem lcPA {G : α → β} (hi : ItP it δ e xs) (hs : ∀ x, set (e x) (wipeE δ vs) = some (E' x)) (hg : ∀ x, EvP elt (E' x) e2 (G x)) : EvP (vLc it set tsYes elt vs) δ (eL e2) (xs.map G) := by
  have := lcPP (Pf := fun _ => true) (e2 := e2) (G := G) hi hs (fun x => (rfl : tsYes (E' x) = some true)) hg
  rwa [List.filter_eq_self.mpr (fun _ _ => rfl)] at this
theorem lcM {Pf : α → Option Bool} {G : α → Option β} (hi : ItM it δ e X) (hs : ∀ x, set (e x) (wipeE δ vs) = some (E' x)) (hp : ∀ x, TsM pt (E' x) (Pf x)) (hg : ∀ x, EvM elt (E' x) e2 (G x)) : EvM (vLc it set pt elt vs) δ (eL e2) (X.bind fun xs => lcT Pf G xs) := fun ys q => by
  obtain ⟨xs, q1, q2⟩ := bind_eq q
  rw [vLc_def, hi xs q1, Option.bind_some, lcT_ok hs hp hg xs ys q2]
  rfl
theorem yesP : TsP tsYes δ true := rfl
end
/-! ### what is walked -/
section
variable {α β : Type} {f : Ev} {fr : Env → Option (List D)} {δ : Env} {e : α → D} {xs : List α} {X : Option (List α)}
theorem itL (a : EvP f δ (eL e) xs) : ItP (iAnyF f) δ e xs := by unfold EvP ItP at *; rw [iAnyF_def, a]; rfl
theorem itLM (a : EvM f δ (eL e) X) : ItM (iAnyF f) δ e X := fun y q => by rw [iAnyF_def, a y q]; rfl
theorem itK (a : EvP f δ (eK e) xs) : ItP (iAnyF f) δ e xs := by unfold EvP ItP at *; rw [iAnyF_def, a]; rfl
theorem itS {ns : List Int} (a : EvP f δ eS ns) : ItP (iAnyF f) δ D.int ns := by unfold EvP ItP at *; rw [iAnyF_def, a]; rfl
def sg1 (c : Nat) : Str := ⟨#[c]⟩
def sgs (s : Str) : List Str := s.cps.toList.map sg1
theorem itT {s : Str} (a : EvP f δ D.str s) : ItP (iAnyF f) δ D.str (sgs s) := by
  unfold EvP ItP at *; rw [iAnyF_def, a]
  show some (signs s) = some ((sgs s).map D.str)
  unfold sgs; rw [List.map_map]; rfl
theorem itTM {s : Option Str} (a : EvM f δ D.str s) : ItM (iAnyF f) δ D.str (s.bind fun s => some (sgs s)) := fun y q => by
  obtain ⟨z, q1, q2⟩ := bind_eq q
  cases q2
  exact itT (f := f) (δ := δ) (a z q1)
def dItems (d : D) : Option (List D) := itemsD d
theorem itD {d : D} (a : EvP f δ eD d) : ItM (iAnyF f) δ eD (dItems d) := fun y q => by
  unfold EvP at a; rw [iAnyF_def, a, Option.bind_some, List.map_id']; exact q
theorem itDM {d : Option D} (a : EvM f δ eD d) : ItM (iAnyF f) δ eD (d.bind dItems) := fun y q => by
  obtain ⟨z, q1, q2⟩ := bind_eq q
  exact itD (f := f) (δ := δ) (a z q1) y q2
def rng (n : Int) : List Int := (List.range n.toNat).map fun (i : Nat) => (i : Int)
def rngT (n : Int) : Option (List Int) := if -1000000 ≤ n ∧ n ≤ 1000000 then some (rng n) else none
def rng2 (a b : Int) : List Int := (List.range (b - a).toNat).map fun (i : Nat) => a + (i : Int)
def rng2T (a b : Int) : Option (List Int) := if -1000000 ≤ a ∧ a ≤ 1000000 ∧ -1000000 ≤ b ∧ b ≤ 1000000 then some (rng2 a b) else none
theorem rng_map (n : Int) : (rng n).map D.int = rngD 0 n.toNat := by
  unfold rng rngD
  rw [List.map_map]
  exact List.map_congr_left fun i _ => by show D.int (i : Int) = D.int (0 + (i : Int)); rw [Int.zero_add]
theorem rng2_map (a b : Int) : (rng2 a b).map D.int = rngD a (b - a).toNat := by
  unfold rng2 rngD
  rw [List.map_map]; rfl
theorem itR {i : Int} (a : EvP f δ D.int i) : ItM (iRngF1 (aCons f aNil)) δ D.int (rngT i) := fun y q => by
  unfold EvP at a
  unfold rngT at q
  split at q
  · rename_i h
    cases q
    show (aCons f aNil δ).bind _ = _
    rw [aCons_def, a, rng_map]
    show (if -1000000 ≤ i ∧ i ≤ 1000000 then some (rngD 0 i.toNat) else none) = _
    rw [if_pos h]
  · cases q
theorem itRM {I : Option Int} (a : EvM f δ D.int I) : ItM (iRngF1 (aCons f aNil)) δ D.int (I.bind rngT) := fun y q => by
  obtain ⟨z, q1, q2⟩ := bind_eq q
  exact itR (f := f) (δ := δ) (a z q1) y q2
/-- a written bound -/
theorem itRc {i : Int} (a : EvP f δ D.int i) (h : -1000000 ≤ i ∧ i ≤ 1000000 := by decide) : ItP (iRngF1 (aCons f aNil)) δ D.int (rng i) := itR a (rng i) (if_pos h)
theorem itR2M {g : Ev} {I J : Option Int} (a : EvM f δ D.int I) (b : EvM g δ D.int J) : ItM (iRngF2 (aCons f (aCons g aNil))) δ D.int (I.bind fun i => J.bind fun j => rng2T i j) := fun y q => by
  obtain ⟨i, q1, q2⟩ := bind_eq q
  obtain ⟨j, q3, q4⟩ := bind_eq q2
  unfold rng2T at q4
  split at q4
  · rename_i h
    cases q4
    show (aCons f (aCons g aNil) δ).bind _ = _
    rw [aCons_def, a _ q1, Option.bind_some, aCons_def, b _ q3, rng2_map]
    show (if -1000000 ≤ i ∧ i ≤ 1000000 ∧ -1000000 ≤ j ∧ j ≤ 1000000 then some (rngD i (j - i).toNat) else none) = _
    rw [if_pos h]
  · cases q4
end
/-! ### statements -/
section
variable {α β γ ρ σ : Type} {f : Ev} {s s' A B : Sv} {δ : Env} {e : α → D} {x : α} {T : Option α} {g : β → Out} {R : Option β} {p : Env → Option Bool} {c : Bool} {P : Option Bool} {i : Nat}
theorem stRet (a : EvP f δ e x) : St (sRet f) δ (fun r => .rt (e r)) (some x) := fun r q => by cases q; unfold EvP at a; rw [sRet_def, a]; rfl
theorem stRetM (a : EvM f δ e T) : St (sRet f) δ (fun r => .rt (e r)) T := fun r q => by rw [sRet_def, a r q]; rfl
theorem stRetC {E : σ → Env} (a : EvP f δ e x) : St (sRet f) δ (outF E e) (some (.rt x)) := fun r q => by cases q; unfold EvP at a; rw [sRet_def, a]; rfl
theorem stRetCM {E : σ → Env} (a : EvM f δ e T) : St (sRet f) δ (outF E e) (T.bind fun r => some (.rt r)) := fun r q => by
  obtain ⟨x, q1, q2⟩ := bind_eq q
  cases q2
  rw [sRet_def, a x q1]; rfl
theorem stRetN (h : e x = .non := by rfl) : St sRetN δ (fun r => .rt (e r)) (some x) := fun r q => by cases q; rw [sRetN_def]; show _ = some (Out.rt (e x)); rw [h]
theorem stRetNC {E : σ → Env} (h : e x = .non := by rfl) : St sRetN δ (outF E e) (some (.rt x)) := fun r q => by cases q; rw [sRetN_def]; show _ = some (Out.rt (e x)); rw [h]
theorem stNext {E : σ → Env} (v : σ) (h : E v = δ := by rfl) : St sNext δ (fun v => .nx (E v)) (some v) := fun r q => by cases q; rw [sNext_def]; show _ = some (Out.nx (E v)); rw [h]
theorem stNextC {E : σ → Env} {e : ρ → D} (v : σ) (h : E v = δ := by rfl) : St sNext δ (outF E e) (some (.nx v)) := fun r q => by cases q; rw [sNext_def]; show _ = some (Out.nx (E v)); rw [h]
theorem stWip {vs : List Nat} (h : St s (wipeE δ vs) g R) : St (sWip vs s) δ g R := h
theorem stNo {g : β → Out} : St sNo δ g none := fun r q => by cases q
/-- name = value; what follows -/
theorem stSet {K : α → Option β} (a : EvP f δ e x) (h : ∀ v, St s' (δ.set i (some (e v))) g (K v)) : St (sSeq (sSet i f) s') δ g (lett x K) := fun r q => by
  unfold EvP at a
  rw [sSeq_def, sSet_def, a]
  exact h x r q
theorem stSetI (a : EvP f δ e x) (h : St s' (δ.set i (some (e x))) g R) : St (sSeq (sSet i f) s') δ g R := fun r q => by
  unfold EvP at a
  rw [sSeq_def, sSet_def, a]
  exact h r q
theorem stSetM {K : α → Option β} (a : EvM f δ e T) (h : ∀ v, St s' (δ.set i (some (e v))) g (K v)) : St (sSeq (sSet i f) s') δ g (T.bind K) := fun r q => by
  obtain ⟨x, q1, q2⟩ := bind_eq q
  rw [sSeq_def, sSet_def, a x q1]
  exact h x r q2
theorem stAsg {set : Hv} {K : α → Option β} {E' : α → Env} (a : EvP f δ e x) (hs : ∀ v, set (e v) δ = some (E' v)) (h : ∀ v, St s' (E' v) g (K v)) : St (sSeq (sAsg f set) s') δ g (lett x K) := fun r q => by
  unfold EvP at a
  rw [sSeq_def, sAsg_def, a, Option.bind_some, hs]
  exact h x r q
theorem stAsgM {set : Hv} {K : α → Option β} {E' : α → Env} (a : EvM f δ e T) (hs : ∀ v, set (e v) δ = some (E' v)) (h : ∀ v, St s' (E' v) g (K v)) : St (sSeq (sAsg f set) s') δ g (T.bind K) := fun r q => by
  obtain ⟨x, q1, q2⟩ := bind_eq q
  rw [sSeq_def, sAsg_def, a x q1, Option.bind_some, hs]
  exact h x r q2
theorem stExpr (a : EvP f δ e x) (h : St s' δ g R) : St (sSeq (sExpr f) s') δ g R := fun r q => by
  unfold EvP at a
  rw [sSeq_def, sExpr_def, a]
  exact h r q
theorem stExprM (a : EvM f δ e T) (h : St s' δ g R) : St (sSeq (sExpr f) s') δ g (T.bind fun _ => R) := fun r q => by
  obtain ⟨x, q1, q2⟩ := bind_eq q
  rw [sSeq_def, sExpr_def, a x q1]
  exact h r q2
/-- a block that never goes on -/
def NoNx (s : Sv) : Prop := ∀ δ δ', s δ ≠ some (.nx δ')
theorem nnRet : NoNx (sRet f) := fun δ δ' h => by
  rw [sRet_def] at h
  cases q : f δ with
  | none => rw [q] at h; cases h
  | some d => rw [q] at h; cases h
theorem nnRetN : NoNx sRetN := fun δ δ' h => by cases h
theorem nnNo : NoNx sNo := fun δ δ' h => by cases h
theorem nnSeq (h : NoNx s') : NoNx (sSeq s s') := fun δ δ' q => by
  rw [sSeq_def] at q
  obtain ⟨o, q1, q2⟩ := bind_eq q
  cases o with
  | nx δ1 => exact h _ _ q2
  | rt d => cases q2
  | ex c fs => cases q2
theorem nnWip {vs : List Nat} (h : NoNx s) : NoNx (sWip vs s) := fun δ δ' q => h _ _ q
theorem nnIf (a : NoNx A) (b : NoNx B) : NoNx (sIf p A B) := fun δ δ' q => by
  rw [sIf_def] at q
  obtain ⟨o, q1, q2⟩ := bind_eq q
  cases o with
  | true => rw [if_pos rfl] at q2; exact a _ _ q2
  | false => rw [if_neg Bool.false_ne_true] at q2; exact b _ _ q2
theorem stIf {TA TB : Option β} (h : TsP p δ c) (a : St A δ g TA) (b : St B δ g TB) : St (sIf p A B) δ g (if c = true then TA else TB) := fun r q => by
  unfold TsP at h
  rw [sIf_def, h, Option.bind_some]
  cases c with
  | true => rw [if_pos rfl] at q ⊢; exact a r q
  | false => rw [if_neg Bool.false_ne_true] at q ⊢; exact b r q
theorem stIfM {TA TB : Option β} (h : TsM p δ P) (a : St A δ g TA) (b : St B δ g TB) : St (sIf p A B) δ g (P.bind fun c => if c = true then TA else TB) := fun r q => by
  obtain ⟨c, q1, q2⟩ := bind_eq q
  exact stIf (h c q1) a b r q2
theorem seq_end {o : Out} (n : NoNx A) (h : A δ = some o) : sSeq A s' δ = some o := by
  rw [sSeq_def, h, Option.bind_some]
  cases o with
  | nx δ' => exact (n _ _ h).elim
  | rt d => rfl
  | ex c fs => rfl
/-- the first branch ends, the other goes on -/
theorem stIfT {TA TB : Option β} (n : NoNx A) (h : TsP p δ c) (a : St A δ g TA) (b : St (sSeq B s') δ g TB) : St (sSeq (sIf p A B) s') δ g (if c = true then TA else TB) := fun r q => by
  unfold TsP at h
  cases c with
  | true =>
    rw [if_pos rfl] at q
    have : sIf p A B δ = A δ := by rw [sIf_def, h]; rfl
    rw [sSeq_def, this, ← sSeq_def]
    exact seq_end n (a r q)
  | false =>
    rw [if_neg Bool.false_ne_true] at q
    have : sIf p A B δ = B δ := by rw [sIf_def, h]; rfl
    rw [sSeq_def, this, ← sSeq_def]
    exact b r q
theorem stIfTM {TA TB : Option β} (n : NoNx A) (h : TsM p δ P) (a : St A δ g TA) (b : St (sSeq B s') δ g TB) : St (sSeq (sIf p A B) s') δ g (P.bind fun c => if c = true then TA else TB) := fun r q => by
  obtain ⟨c, q1, q2⟩ := bind_eq q
  exact stIfT n (h c q1) a b r q2
theorem stIfE {TA TB : Option β} (n : NoNx B) (h : TsP p δ c) (a : St (sSeq A s') δ g TA) (b : St B δ g TB) : St (sSeq (sIf p A B) s') δ g (if c = true then TA else TB) := fun r q => by
  unfold TsP at h
  cases c with
  | true =>
    rw [if_pos rfl] at q
    have : sIf p A B δ = A δ := by rw [sIf_def, h]; rfl
    rw [sSeq_def, this, ← sSeq_def]
    exact a r q
  | false =>
    rw [if_neg Bool.false_ne_true] at q
    have : sIf p A B δ = B δ := by rw [sIf_def, h]; rfl
    rw [sSeq_def, this, ← sSeq_def]
    exact seq_end n (b r q)
theorem stIfEM {TA TB : Option β} (n : NoNx B) (h : TsM p δ P) (a : St (sSeq A s') δ g TA) (b : St B δ g TB) : St (sSeq (sIf p A B) s') δ g (P.bind fun c => if c = true then TA else TB) := fun r q => by
  obtain ⟨c, q1, q2⟩ := bind_eq q
  exact stIfE n (h c q1) a b r q2
theorem stSkip (h : St s' δ g R) : St (sSeq sNext s') δ g R := h
theorem seq_assoc {a b c : Sv} : sSeq (sSeq a b) c δ = sSeq a (sSeq b c) δ := by
  rw [sSeq_def, sSeq_def, sSeq_def]
  cases a δ with
  | none => rfl
  | some o => cases o <;> rfl
theorem stAss {a b : Sv} (h : St (sSeq a (sSeq b s')) δ g R) : St (sSeq (sSeq a b) s') δ g R := fun r q => by rw [seq_assoc]; exact h r q
theorem stWipSeq {vs : List Nat} (h : St (sSeq s s') (wipeE δ vs) g R) : St (sSeq (sWip vs s) s') δ g R := h
/-- a part that goes on, then the rest -/
theorem stSeq {E : σ → Env} {T : Option σ} {K : σ → Option β} (a : St s δ (fun v => .nx (E v)) T) (h : ∀ v, St s' (E v) g (K v)) : St (sSeq s s') δ g (T.bind K) := fun r q => by
  obtain ⟨v, q1, q2⟩ := bind_eq q
  rw [sSeq_def, a v q1]
  exact h v r q2
/-- a part that goes on or hands back -/
theorem stSeqC {E : σ → Env} {e : ρ → D} {T : Option (Ctl σ ρ)} {K : σ → Option β} {Rr : ρ → β} (a : St s δ (outF E e) T) (h : ∀ v, St s' (E v) g (K v)) (hR : ∀ r, g (Rr r) = .rt (e r) := by intro _; rfl) : St (sSeq s s') δ g (bindC T K Rr) := fun r q => by
  obtain ⟨c, q1, q2⟩ := bind_eq q
  cases c with
  | nx v =>
    rw [sSeq_def, a _ q1]
    exact h v r q2
  | rt y =>
    cases q2
    rw [sSeq_def, a _ q1, hR]
    rfl
/-- a part that only goes on, where handing back is let -/
theorem stUp {E : σ → Env} {e : ρ → D} {T : Option σ} (a : St s δ (fun v => .nx (E v)) T) : St s δ (outF E e) (T.bind fun v => some (.nx v)) := fun r q => by
  obtain ⟨v, q1, q2⟩ := bind_eq q
  cases q2
  exact a v q1
variable {it : Env → Option (List D)} {set : Hv} {body : Sv} {xs : List α} {X : Option (List α)}
theorem foldT_ok {E : σ → Env} {E' : σ → α → Env} {Bd : σ → α → Option σ} (hs : ∀ v x, set (e x) (E v) = some (E' v x)) (hb : ∀ v x, St body (E' v x) (fun v => .nx (E v)) (Bd v x)) : ∀ (xs : List α) (v r : σ), foldT Bd xs v = some r → forD set body (xs.map e) (E v) = some (.nx (E r))
  | [], v, r, h => by cases h; rfl
  | x :: xs, v, r, h => by
    obtain ⟨v', q1, q2⟩ := bind_eq h
    show ((set (e x) (E v)).bind fun δ1 => (body δ1).bind fun o => match o with | .nx δ2 => forD set body (xs.map e) δ2 | o => some o) = _
    rw [hs, Option.bind_some, hb v x v' q1, Option.bind_some]
    exact foldT_ok hs hb xs v' r q2
theorem forT_ok {E : σ → Env} {e2 : ρ → D} {E' : σ → α → Env} {Bd : σ → α → Option (Ctl σ ρ)} (hs : ∀ v x, set (e x) (E v) = some (E' v x)) (hb : ∀ v x, St body (E' v x) (outF E e2) (Bd v x)) : ∀ (xs : List α) (v : σ) (r : Ctl σ ρ), forT Bd xs v = some r → forD set body (xs.map e) (E v) = some (outF E e2 r)
  | [], v, r, h => by cases h; rfl
  | x :: xs, v, r, h => by
    obtain ⟨c, q1, q2⟩ := bind_eq h
    show ((set (e x) (E v)).bind fun δ1 => (body δ1).bind fun o => match o with | .nx δ2 => forD set body (xs.map e) δ2 | o => some o) = _
    rw [hs, Option.bind_some, hb v x c q1, Option.bind_some]
    cases c with
    | nx v' => exact forT_ok hs hb xs v' r q2
    | rt y => cases q2; rfl
theorem stFor {E : σ → Env} {E' : σ → α → Env} {Bd : σ → α → Option σ} (v0 : σ) (hi : ItP it δ e xs) (h0 : E v0 = δ) (hs : ∀ v x, set (e x) (E v) = some (E' v x)) (hb : ∀ v x, St body (E' v x) (fun v => .nx (E v)) (Bd v x)) : St (sFor it set body) δ (fun v => .nx (E v)) (foldT Bd xs v0) := fun r q => by
  unfold ItP at hi
  rw [sFor_def, hi, Option.bind_some, ← h0]
  exact foldT_ok hs hb xs v0 r q
theorem stForM {E : σ → Env} {E' : σ → α → Env} {Bd : σ → α → Option σ} (v0 : σ) (hi : ItM it δ e X) (h0 : E v0 = δ) (hs : ∀ v x, set (e x) (E v) = some (E' v x)) (hb : ∀ v x, St body (E' v x) (fun v => .nx (E v)) (Bd v x)) : St (sFor it set body) δ (fun v => .nx (E v)) (X.bind fun xs => foldT Bd xs v0) := fun r q => by
  obtain ⟨xs, q1, q2⟩ := bind_eq q
  exact stFor v0 (hi xs q1) h0 hs hb r q2
theorem stForC {E : σ → Env} {e2 : ρ → D} {E' : σ → α → Env} {Bd : σ → α → Option (Ctl σ ρ)} (v0 : σ) (hi : ItP it δ e xs) (h0 : E v0 = δ) (hs : ∀ v x, set (e x) (E v) = some (E' v x)) (hb : ∀ v x, St body (E' v x) (outF E e2) (Bd v x)) : St (sFor it set body) δ (outF E e2) (forT Bd xs v0) := fun r q => by
  unfold ItP at hi
  rw [sFor_def, hi, Option.bind_some, ← h0]
  exact forT_ok hs hb xs v0 r q
theorem stForCM {E : σ → Env} {e2 : ρ → D} {E' : σ → α → Env} {Bd : σ → α → Option (Ctl σ ρ)} (v0 : σ) (hi : ItM it δ e X) (h0 : E v0 = δ) (hs : ∀ v x, set (e x) (E v) = some (E' v x)) (hb : ∀ v x, St body (E' v x) (outF E e2) (Bd v x)) : St (sFor it set body) δ (outF E e2) (X.bind fun xs => forT Bd xs v0) := fun r q => by
  obtain ⟨xs, q1, q2⟩ := bind_eq q
  exact stForC v0 (hi xs q1) h0 hs hb r q2
theorem whN_ok {E : σ → Env} {Pw : σ → Option Bool} {Bd : σ → Option σ} (hp : ∀ v, TsM p (E v) (Pw v)) (hb : ∀ v, St body (E v) (fun v => .nx (E v)) (Bd v)) : ∀ (n : Nat) (v r : σ), whN Pw Bd n v = some r → whileD p body n (E v) = some (.nx (E r))
  | 0, v, r, h => by cases h
  | n + 1, v, r, h => by
    obtain ⟨c, q1, q2⟩ := bind_eq h
    show ((p (E v)).bind fun b => if b = true then (body (E v)).bind fun o => match o with | .nx δ1 => whileD p body n δ1 | o => some o else some (.nx (E v))) = _
    rw [hp v c q1, Option.bind_some]
    cases c with
    | true =>
      rw [if_pos rfl] at q2 ⊢
      obtain ⟨v', q3, q4⟩ := bind_eq q2
      rw [hb v v' q3, Option.bind_some]
      exact whN_ok hp hb n v' r q4
    | false => rw [if_neg Bool.false_ne_true] at q2 ⊢; cases q2; rfl
theorem stWhile {E : σ → Env} {Pw : σ → Option Bool} {Bd : σ → Option σ} (v0 : σ) (h0 : E v0 = δ) (hp : ∀ v, TsM p (E v) (Pw v)) (hb : ∀ v, St body (E v) (fun v => .nx (E v)) (Bd v)) : St (sWhile p body) δ (fun v => .nx (E v)) (whN Pw Bd fuel v0) := fun r q => by
  rw [← h0]; exact whN_ok hp hb fuel v0 r q
/-! lists changed in their place -/
def appT (xs : List α) (x : α) : Option (List α) := if xs.length < sizeLine then some (xs ++ [x]) else none
def extT (xs ys : List α) : Option (List α) := if xs.length + ys.length ≤ sizeLine then some (xs ++ ys) else none
theorem app_eq {xs v : List α} (h : appT xs x = some v) (hf : f δ = some (e x)) (hv : δ[i]? = some (some (eL e xs))) : sApp i f δ = some (.nx (δ.set i (some (eL e v)))) := by
  unfold appT at h
  split at h
  · rename_i c
    cases h
    rw [sApp_def, vVar_def, hv]
    show (match (some (eL e xs) : Option D).bind (fun l => some l) with | _ => _) = _
    simp only [Option.join_some, Option.bind_some, eL]
    rw [hf, Option.bind_some, List.length_map, if_pos c]
    show some (Out.nx _) = _
    rw [List.map_append]; rfl
  · cases h
theorem stApp {K : List α → Option β} (a : EvP f δ e x) (h : ∀ v, St s' (δ.set i (some (eL e v))) g (K v)) (hv : δ[i]? = some (some (eL e xs)) := by rfl) : St (sSeq (sApp i f) s') δ g ((appT xs x).bind K) := fun r q => by
  obtain ⟨v, q1, q2⟩ := bind_eq q
  rw [sSeq_def, app_eq q1 a hv]
  exact h v r q2
theorem stAppM {K : List α → Option β} (a : EvM f δ e T) (h : ∀ v, St s' (δ.set i (some (eL e v))) g (K v)) (hv : δ[i]? = some (some (eL e xs)) := by rfl) : St (sSeq (sApp i f) s') δ g (T.bind fun x => (appT xs x).bind K) := fun r q => by
  obtain ⟨x, q1, q2⟩ := bind_eq q
  exact stApp (show EvP f δ e x from a x q1) h hv r q2
end
end Dl
/-! L: what the operations tell of typed values. -/
namespace Dl
open PySem L2
/-! ### ints -/
theorem t_add : Tot2 opAdd D.int D.int D.int (fun a b => a + b) := fun _ _ => rfl
theorem t_sub : Tot2 opSub D.int D.int D.int (fun a b => a - b) := fun _ _ => rfl
theorem t_lt : Tot2 opLt D.int D.int D.bl (fun a b => decide (a < b)) := fun _ _ => rfl
theorem t_le : Tot2 opLe D.int D.int D.bl (fun a b => decide (a ≤ b)) := fun _ _ => rfl
theorem t_gt : Tot2 opGt D.int D.int D.bl (fun a b => decide (b < a)) := fun _ _ => rfl
theorem t_ge : Tot2 opGe D.int D.int D.bl (fun a b => decide (b ≤ a)) := fun _ _ => rfl
def mulT (a b : Int) : Option Int := if mulOk a b then some (a * b) else none
def modT (a b : Int) : Option Int := if 0 < b then some (a % b) else none
def divT (a b : Int) : Option Int := if 0 < b ∧ b < 1073741824 then some (a / b) else none
theorem p_mul : Par2 opMulI D.int D.int D.int mulT := fun a b c h => by
  unfold mulT at h
  rw [opMulI_ii]
  split at h
  · rename_i q; cases h; rw [if_pos q]
  · cases h
theorem p_mod : Par2 opMod D.int D.int D.int modT := fun a b c h => by
  unfold modT at h
  rw [opMod_ii]
  split at h
  · rename_i q; cases h; rw [if_pos q]
  · cases h
theorem p_div : Par2 opDiv D.int D.int D.int divT := fun a b c h => by
  unfold divT at h
  rw [opDiv_ii]
  split at h
  · rename_i q; cases h; rw [if_pos q]
  · cases h
theorem modT_ok {a b : Int} (h : 0 < b) : modT a b = some (a % b) := if_pos h
theorem divT_ok {a b : Int} (h : 0 < b) (h2 : b < 1073741824) : divT a b = some (a / b) := if_pos ⟨h, h2⟩
theorem mulT_l {a : Int} (b : Int) (h : -(2 ^ 64) < a ∧ a < 2 ^ 64) : mulT a b = some (a * b) := if_pos (mulOk_l b h)
theorem mulT_r (a : Int) {b : Int} (h : -(2 ^ 64) < b ∧ b < 2 ^ 64) : mulT a b = some (a * b) := if_pos (mulOk_r a h)
section
variable {f g : Ev} {δ : Env} {a : Int} {A : Option Int}
/-- by a written number -/
theorem modK {k : Int} (h : EvP f δ D.int a) (hk : 0 < k := by decide) : EvP (v2 opMod f (vC (.int k))) δ D.int (a % k) := by
  unfold EvP at *; rw [v2_def, h, Option.bind_some, vC_def, Option.bind_some, opMod_ii, if_pos hk]
theorem modKM {k : Int} (h : EvM f δ D.int A) (hk : 0 < k := by decide) : EvM (v2 opMod f (vC (.int k))) δ D.int (A.bind fun a => some (a % k)) := fun r q => by
  obtain ⟨a, q1, q2⟩ := bind_eq q; cases q2; exact modK (h a q1) hk
theorem divK {k : Int} (h : EvP f δ D.int a) (hk : 0 < k ∧ k < 1073741824 := by decide) : EvP (v2 opDiv f (vC (.int k))) δ D.int (a / k) := by
  unfold EvP at *; rw [v2_def, h, Option.bind_some, vC_def, Option.bind_some, opDiv_ii, if_pos hk]
theorem divKM {k : Int} (h : EvM f δ D.int A) (hk : 0 < k ∧ k < 1073741824 := by decide) : EvM (v2 opDiv f (vC (.int k))) δ D.int (A.bind fun a => some (a / k)) := fun r q => by
  obtain ⟨a, q1, q2⟩ := bind_eq q; cases q2; exact divK (h a q1) hk
theorem mulK {k : Int} (h : EvP f δ D.int a) (hk : -(2 ^ 64) < k ∧ k < 2 ^ 64 := by decide) : EvP (v2 opMulI f (vC (.int k))) δ D.int (a * k) := by
  unfold EvP at *; rw [v2_def, h, Option.bind_some, vC_def, Option.bind_some, opMulI_ii, if_pos (mulOk_r a hk)]
theorem mulKM {k : Int} (h : EvM f δ D.int A) (hk : -(2 ^ 64) < k ∧ k < 2 ^ 64 := by decide) : EvM (v2 opMulI f (vC (.int k))) δ D.int (A.bind fun a => some (a * k)) := fun r q => by
  obtain ⟨a, q1, q2⟩ := bind_eq q; cases q2; exact mulK (h a q1) hk
theorem Kmul {k : Int} (h : EvP f δ D.int a) (hk : -(2 ^ 64) < k ∧ k < 2 ^ 64 := by decide) : EvP (v2 opMulI (vC (.int k)) f) δ D.int (k * a) := by
  unfold EvP at *; rw [v2_def, vC_def, Option.bind_some, h, Option.bind_some, opMulI_ii, if_pos (mulOk_l a hk)]
theorem KmulM {k : Int} (h : EvM f δ D.int A) (hk : -(2 ^ 64) < k ∧ k < 2 ^ 64 := by decide) : EvM (v2 opMulI (vC (.int k)) f) δ D.int (A.bind fun a => some (k * a)) := fun r q => by
  obtain ⟨a, q1, q2⟩ := bind_eq q; cases q2; exact Kmul (h a q1) hk
theorem powK {i j : Int} (h : 0 ≤ j ∧ j ≤ 1000000 ∧ i.natAbs < 2 ^ 64 := by decide) : EvP (v2 opPow (vC (.int i)) (vC (.int j))) δ D.int (i ^ j.toNat) := by
  unfold EvP; rw [v2_def, vC_def, Option.bind_some, vC_def, Option.bind_some, opPow_ii, if_pos h]
end
/-! ### equality -/
/-- an encoding into plain data of a depth, one datum a value -/
structure Enc {α : Type} [DecidableEq α] (n : Nat) (e : α → D) : Prop where
  fit : ∀ a, fitN n (e a)
  inj : ∀ a b, D.eqv (e a) (e b) = decide (a = b)
theorem enc_int : Enc 0 D.int := ⟨fun a => fit_int a 0, fun a b => by show (a == b) = _; by_cases h : a = b <;> simp [h]⟩
theorem enc_bl : Enc 0 D.bl := ⟨fun a => fit_bl a 0, fun a b => by cases a <;> cases b <;> rfl⟩
theorem enc_str : Enc 0 D.str := ⟨fun a => fit_str a 0, fun a b => by show (a == b) = _; by_cases h : a = b <;> simp [h]⟩
theorem enc_u : Enc 0 eU := ⟨fun a => fit_non 0, fun a b => rfl⟩
section
variable {α β γ δ' ε ζ : Type} [DecidableEq α] [DecidableEq β] [DecidableEq γ] [DecidableEq δ'] [DecidableEq ε] [DecidableEq ζ] {n m k l j i : Nat} {e : α → D} {e1 : α → D} {e2 : β → D} {e3 : γ → D} {e4 : δ' → D} {e5 : ε → D} {e6 : ζ → D}
theorem fitN.up {d : D} (h : fitN n d) (q : n ≤ m) : fitN m d := ⟨h.1, Nat.le_trans h.2 q⟩
theorem eqvL_eq (h : Enc n e) : ∀ xs ys : List α, PyData.eqvAll (D.pyL (xs.map e)) (D.pyL (ys.map e)) = decide (xs = ys)
  | [], [] => rfl
  | [], y :: ys => by rw [decide_eq_false (by simp)]; rfl
  | x :: xs, [] => by rw [decide_eq_false (by simp)]; rfl
  | x :: xs, y :: ys => by
    show (D.eqv (e x) (e y) && PyData.eqvAll (D.pyL (xs.map e)) (D.pyL (ys.map e))) = _
    rw [h.inj, eqvL_eq h xs ys]
    by_cases c : x = y <;> by_cases c' : xs = ys <;> simp [c, c']
theorem enc_l (h : Enc n e) : Enc (n + 1) (eL e) := ⟨fun a => fit_lst fun d hd => by obtain ⟨x, _, rfl⟩ := List.mem_map.mp hd; exact h.fit x, fun a b => eqvL_eq h a b⟩
theorem enc_k (h : Enc n e) : Enc (n + 1) (eK e) := ⟨fun a => ⟨(fit_all fun d hd => by obtain ⟨x, _, rfl⟩ := List.mem_map.mp hd; exact h.fit x).1, Nat.succ_le_succ (fit_all fun d hd => by obtain ⟨x, _, rfl⟩ := List.mem_map.mp hd; exact h.fit x).2⟩, fun a b => eqvL_eq h a b⟩
theorem enc_t1 (h1 : Enc n e1) : Enc (n + 1) (eT1 e1) := ⟨fun p => fit_tup fun d hd => by rw [List.mem_singleton.mp hd]; exact h1.fit _, fun p q => by
  show (D.eqv (e1 p) (e1 q) && true) = _
  rw [h1.inj]; by_cases c : p = q <;> simp [c]⟩
theorem enc_t2 (h1 : Enc n e1) (h2 : Enc m e2) : Enc (max n m + 1) (eT2 e1 e2) := ⟨fun p => fit_tup fun d hd => by
  rcases List.mem_cons.mp hd with rfl | hd
  · exact (h1.fit _).up (Nat.le_max_left ..)
  · rw [List.mem_singleton.mp hd]; exact (h2.fit _).up (Nat.le_max_right ..), fun p q => by
  show (D.eqv (e1 p.1) (e1 q.1) && (D.eqv (e2 p.2) (e2 q.2) && true)) = _
  rw [h1.inj, h2.inj]
  obtain ⟨a, b⟩ := p; obtain ⟨c, d⟩ := q
  by_cases h : a = c <;> by_cases h' : b = d <;> simp [h, h']⟩
theorem tup_cons_fit {ds : List D} {d : D} (h : fitN n d) (h2 : fitN (m + 1) (.tup ds)) : fitN (max n m + 1) (.tup (d :: ds)) := by
  constructor
  · show (d.py.plain && PyData.plainAll (D.pyL ds)) = true
    rw [h.1]; exact h2.1
  · have := h2.2
    have h3 : PyData.depthAll (D.pyL ds) + 1 ≤ m + 1 := this
    show max d.py.depth (PyData.depthAll (D.pyL ds)) + 1 ≤ max n m + 1
    have := h.2
    omega
theorem enc_t3 (h1 : Enc n e1) (h2 : Enc m e2) (h3 : Enc k e3) : Enc (max n (max m k) + 1) (eT3 e1 e2 e3) := ⟨fun p => tup_cons_fit (h1.fit _) ((enc_t2 h2 h3).fit p.2), fun p q => by
  show (D.eqv (e1 p.1) (e1 q.1) && D.eqv (eT2 e2 e3 p.2) (eT2 e2 e3 q.2)) = _
  rw [h1.inj, (enc_t2 h2 h3).inj]
  obtain ⟨a, b⟩ := p; obtain ⟨c, d⟩ := q
  by_cases h : a = c <;> by_cases h' : b = d <;> simp [h, h']⟩
theorem enc_t4 (h1 : Enc n e1) (h2 : Enc m e2) (h3 : Enc k e3) (h4 : Enc l e4) : Enc (max n (max m (max k l)) + 1) (eT4 e1 e2 e3 e4) := ⟨fun p => tup_cons_fit (h1.fit _) ((enc_t3 h2 h3 h4).fit p.2), fun p q => by
  show (D.eqv (e1 p.1) (e1 q.1) && D.eqv (eT3 e2 e3 e4 p.2) (eT3 e2 e3 e4 q.2)) = _
  rw [h1.inj, (enc_t3 h2 h3 h4).inj]
  obtain ⟨a, b⟩ := p; obtain ⟨c, d⟩ := q
  by_cases h : a = c <;> by_cases h' : b = d <;> simp [h, h']⟩
theorem enc_t5 (h1 : Enc n e1) (h2 : Enc m e2) (h3 : Enc k e3) (h4 : Enc l e4) (h5 : Enc j e5) : Enc (max n (max m (max k (max l j))) + 1) (eT5 e1 e2 e3 e4 e5) := ⟨fun p => tup_cons_fit (h1.fit _) ((enc_t4 h2 h3 h4 h5).fit p.2), fun p q => by
  show (D.eqv (e1 p.1) (e1 q.1) && D.eqv (eT4 e2 e3 e4 e5 p.2) (eT4 e2 e3 e4 e5 q.2)) = _
  rw [h1.inj, (enc_t4 h2 h3 h4 h5).inj]
  obtain ⟨a, b⟩ := p; obtain ⟨c, d⟩ := q
  by_cases h : a = c <;> by_cases h' : b = d <;> simp [h, h']⟩
theorem enc_t6 (h1 : Enc n e1) (h2 : Enc m e2) (h3 : Enc k e3) (h4 : Enc l e4) (h5 : Enc j e5) (h6 : Enc i e6) : Enc (max n (max m (max k (max l (max j i)))) + 1) (eT6 e1 e2 e3 e4 e5 e6) := ⟨fun p => tup_cons_fit (h1.fit _) ((enc_t5 h2 h3 h4 h5 h6).fit p.2), fun p q => by
  show (D.eqv (e1 p.1) (e1 q.1) && D.eqv (eT5 e2 e3 e4 e5 e6 p.2) (eT5 e2 e3 e4 e5 e6 q.2)) = _
  rw [h1.inj, (enc_t5 h2 h3 h4 h5 h6).inj]
  obtain ⟨a, b⟩ := p; obtain ⟨c, d⟩ := q
  by_cases h : a = c <;> by_cases h' : b = d <;> simp [h, h']⟩
/-- none of them is None -/
def NN {α : Type} (e : α → D) : Prop := ∀ a, isNon (e a) = false
theorem eqv_nn {d : D} (h : isNon d = false) (hp : d.py.plain = true) : D.eqv .non d = false ∧ D.eqv d .non = false := by
  cases d with
  | non => cases h
  | _ => first | exact ⟨rfl, rfl⟩ | cases hp
theorem enc_o (h : Enc n e) (hn : NN e) : Enc n (eO e) := ⟨fun a => by cases a with
    | none => exact fit_non n
    | some x => exact h.fit x, fun a b => by
    cases a with
    | none => cases b with
      | none => rfl
      | some y => rw [decide_eq_false (by simp)]; exact (eqv_nn (hn y) (h.fit y).1).1
    | some x => cases b with
      | none => rw [decide_eq_false (by simp)]; exact (eqv_nn (hn x) (h.fit x).1).2
      | some y => show D.eqv (e x) (e y) = _; rw [h.inj]; by_cases c : x = y <;> simp [c]⟩
theorem t_eq (h : Enc n e) (hn : n ≤ 60 := by decide) : Tot2 opEq e e D.bl (fun a b => decide (a = b)) := fun a b => by
  unfold opEq
  rw [if_pos (cmpOk_of (h.fit a) (h.fit b) hn), h.inj]
theorem t_ne (h : Enc n e) (hn : n ≤ 60 := by decide) : Tot2 opNe e e D.bl (fun a b => !decide (a = b)) := fun a b => by
  unfold opNe
  rw [if_pos (cmpOk_of (h.fit a) (h.fit b) hn), h.inj]
theorem any_mem (h : Enc n e) (a : α) (xs : List α) : ((xs.map e).any fun y => D.eqv y (e a)) = decide (a ∈ xs) := by
  induction xs with
  | nil => simp
  | cons x xs ih =>
    rw [List.map_cons, List.any_cons, ih, h.inj]
    by_cases c : x = a
    · simp [c]
    · have c' : ¬ a = x := fun z => c z.symm
      by_cases c2 : a ∈ xs <;> simp [c, c', c2]
theorem inB_l (h : Enc n e) (hn : n ≤ 59) (a : α) (xs : List α) : opInB (e a) (eL e xs) = some (decide (a ∈ xs)) := by
  have : opInB (e a) (.lst (xs.map e)) = if cmpOk (.lst (xs.map e)) (e a) then some ((xs.map e).any fun y => D.eqv y (e a)) else none := by cases e a <;> rfl
  unfold eL
  rw [this, if_pos (show cmpOk (.lst (xs.map e)) (e a) = true from cmpOk_of ((enc_l h).fit xs) ((h.fit a).up (by omega)) (by omega)), any_mem h]
theorem inB_k (h : Enc n e) (hn : n ≤ 59) (a : α) (xs : List α) : opInB (e a) (eK e xs) = some (decide (a ∈ xs)) := by
  have : opInB (e a) (.ktup (xs.map e)) = if cmpOk (.ktup (xs.map e)) (e a) then some ((xs.map e).any fun y => D.eqv y (e a)) else none := by cases e a <;> rfl
  unfold eK
  rw [this, if_pos (show cmpOk (.ktup (xs.map e)) (e a) = true from cmpOk_of ((enc_k h).fit xs) ((h.fit a).up (by omega)) (by omega)), any_mem h]
theorem t_in (h : Enc n e) (hn : n ≤ 59 := by decide) : Tot2 opIn e (eL e) D.bl (fun a xs => decide (a ∈ xs)) := fun a xs => by unfold opIn; rw [inB_l h hn]; rfl
theorem t_nin (h : Enc n e) (hn : n ≤ 59 := by decide) : Tot2 opNin e (eL e) D.bl (fun a xs => !decide (a ∈ xs)) := fun a xs => by unfold opNin; rw [inB_l h hn]; rfl
theorem t_ink (h : Enc n e) (hn : n ≤ 59 := by decide) : Tot2 opIn e (eK e) D.bl (fun a xs => decide (a ∈ xs)) := fun a xs => by unfold opIn; rw [inB_k h hn]; rfl
theorem t_nink (h : Enc n e) (hn : n ≤ 59 := by decide) : Tot2 opNin e (eK e) D.bl (fun a xs => !decide (a ∈ xs)) := fun a xs => by unfold opNin; rw [inB_k h hn]; rfl
end
theorem t_ins : Tot2 opIn D.str D.str D.bl strIn := fun _ _ => rfl
theorem t_nins : Tot2 opNin D.str D.str D.bl (fun a b => !strIn a b) := fun _ _ => rfl
/-! dyn -/
def eqB (a b : D) : Option Bool := if cmpOk a b then some (D.eqv a b) else none
def neB (a b : D) : Option Bool := if cmpOk a b then some (!D.eqv a b) else none
theorem d_eq : Par2 opEq eD eD D.bl eqB := fun a b c h => by
  unfold eqB at h; unfold opEq
  split at h
  · rename_i q; cases h; rw [if_pos q]
  · cases h
theorem d_ne : Par2 opNe eD eD D.bl neB := fun a b c h => by
  unfold neB at h; unfold opNe
  split at h
  · rename_i q; cases h; rw [if_pos q]
  · cases h
def ninB (a b : D) : Option Bool := (opInB a b).map fun c => !c
theorem d_in : Par2 opIn eD eD D.bl opInB := fun a b c h => by unfold opIn; rw [h]; rfl
theorem d_nin : Par2 opNin eD eD D.bl ninB := fun a b c h => by
  unfold ninB at h; unfold opNin
  cases q : opInB a b with
  | none => rw [q] at h; cases h
  | some x => rw [q] at h; cases h; rfl
theorem d_op (op : D → D → Option D) : Par2 op eD eD eD op := fun a b c h => h
/-- truths of data -/
def tst (o : Option D) : Option Bool := o.bind fun d => match d with | .bl b => some b | _ => none
theorem tstD {f : Ev} {δ : Env} {T : Option D} (h : EvM f δ eD T) : EvM f δ D.bl (tst T) := fun c q => by
  obtain ⟨d, q1, q2⟩ := bind_eq q
  cases d with
  | bl b => cases q2; exact h _ q1
  | _ => cases q2
def ltD (a b : D) : Option Bool := match a, b with | .int i, .int j => some (decide (i < j)) | _, _ => none
def leD (a b : D) : Option Bool := match a, b with | .int i, .int j => some (decide (i ≤ j)) | _, _ => none
theorem d_lt : Par2 opLt eD eD D.bl ltD := fun a b c h => by cases a <;> cases b <;> cases h; rfl
theorem d_le : Par2 opLe eD eD D.bl leD := fun a b c h => by cases a <;> cases b <;> cases h; rfl
/-! is None -/
section
variable {α : Type} {f : Ev} {δ : Env} {e : α → D} {x : Option α} {T : Option (Option α)}
theorem isN (h : EvP f δ (eO e) x) (hn : NN e) : EvP (v2 opIs f (vC .non)) δ D.bl x.isNone := by
  unfold EvP at *; rw [v2_def, h, Option.bind_some, vC_def, Option.bind_some, opIs_non]
  cases x with
  | none => rfl
  | some y => show some (D.bl (isNon (e y))) = _; rw [hn]; rfl
theorem isNM (h : EvM f δ (eO e) T) (hn : NN e) : EvM (v2 opIs f (vC .non)) δ D.bl (T.bind fun x => some x.isNone) := fun r q => by
  obtain ⟨a, q1, q2⟩ := bind_eq q; cases q2; exact isN (h a q1) hn
theorem isNt (h : EvP f δ (eO e) x) (hn : NN e) : EvP (v2 opNot f (vC .non)) δ D.bl x.isSome := by
  unfold EvP at *; rw [v2_def, h, Option.bind_some, vC_def, Option.bind_some, opNot_non]
  cases x with
  | none => rfl
  | some y => show some (D.bl (!isNon (e y))) = _; rw [hn]; rfl
theorem isNtM (h : EvM f δ (eO e) T) (hn : NN e) : EvM (v2 opNot f (vC .non)) δ D.bl (T.bind fun x => some x.isSome) := fun r q => by
  obtain ⟨a, q1, q2⟩ := bind_eq q; cases q2; exact isNt (h a q1) hn
theorem isD {d : D} (h : EvP f δ eD d) : EvP (v2 opIs f (vC .non)) δ D.bl (isNon d) := by
  unfold EvP at *; rw [v2_def, h, Option.bind_some, vC_def, Option.bind_some, opIs_non]
theorem isntD {d : D} (h : EvP f δ eD d) : EvP (v2 opNot f (vC .non)) δ D.bl (!isNon d) := by
  unfold EvP at *; rw [v2_def, h, Option.bind_some, vC_def, Option.bind_some, opNot_non]
theorem isDM {T : Option D} (h : EvM f δ eD T) : EvM (v2 opIs f (vC .non)) δ D.bl (T.bind fun d => some (isNon d)) := fun r q => by
  obtain ⟨a, q1, q2⟩ := bind_eq q; cases q2; exact isD (h a q1)
theorem isntDM {T : Option D} (h : EvM f δ eD T) : EvM (v2 opNot f (vC .non)) δ D.bl (T.bind fun d => some (!isNon d)) := fun r q => by
  obtain ⟨a, q1, q2⟩ := bind_eq q; cases q2; exact isntD (h a q1)
end
theorem nn_int : NN D.int := fun _ => rfl
theorem nn_str : NN D.str := fun _ => rfl
theorem nn_bl : NN D.bl := fun _ => rfl
theorem nn_l {α : Type} {e : α → D} : NN (eL e) := fun _ => rfl
theorem nn_k {α : Type} {e : α → D} : NN (eK e) := fun _ => rfl
theorem nn_t2 {α β : Type} {e1 : α → D} {e2 : β → D} : NN (eT2 e1 e2) := fun _ => rfl
theorem nn_t3 {α β γ : Type} {e1 : α → D} {e2 : β → D} {e3 : γ → D} : NN (eT3 e1 e2 e3) := fun _ => rfl
/-! ### items -/
theorem p_ixl {α : Type} {e : α → D} : Par2 opIx (eL e) D.int e (fun xs i => atI xs i) := fun xs i c h => by
  have h : atI xs i = some c := h
  show opIx (.lst (xs.map e)) (.int i) = _
  rw [opIx_lst, atI_map, h]; rfl
theorem p_ixk {α : Type} {e : α → D} : Par2 opIx (eK e) D.int e (fun xs i => atI xs i) := fun xs i c h => by
  have h : atI xs i = some c := h
  show opIx (.ktup (xs.map e)) (.int i) = _
  rw [opIx_ktup, atI_map, h]; rfl
theorem p_ixscr : Par2 opIx eS D.int D.int (fun xs i => atI xs i) := fun xs i c h => by
  have h : atI xs i = some c := h
  show opIx (.scr xs) (.int i) = _
  rw [opIx_scr, h]; rfl
def atS (s : Str) (i : Int) : Option Str := (atI s.cps.toList i).bind fun c => some (sg1 c)
theorem p_ixs : Par2 opIx D.str D.int D.str atS := fun s i c h => by
  obtain ⟨x, q1, q2⟩ := bind_eq h
  cases q2
  rw [opIx_str, q1]; rfl
section
variable {α β : Type} {f : Ev} {δ : Env} {e : α → D} {e2 : β → D} {x : α} {T : Option α}
/-- a part of a tuple -/
theorem ixT {k : Int} {y : β} (h : EvP f δ e x) (hk : opIx (e x) (.int k) = some (e2 y)) : EvP (v2 opIx f (vC (.int k))) δ e2 y := by
  unfold EvP at *; rw [v2_def, h, Option.bind_some, vC_def, Option.bind_some, hk]
theorem ixTM {k : Int} {G : α → β} (h : EvM f δ e T) (hk : ∀ x, opIx (e x) (.int k) = some (e2 (G x))) : EvM (v2 opIx f (vC (.int k))) δ e2 (T.bind fun x => some (G x)) := fun r q => by
  obtain ⟨a, q1, q2⟩ := bind_eq q; cases q2; exact ixT (h a q1) (hk a)
end
/-! ### texts, lists -/
def catS (a b : Str) : Option Str := if a.length + b.length ≤ sizeLine then some (a ++ b) else none
theorem p_cats : Par2 opAdd D.str D.str D.str catS := fun a b c h => by
  unfold catS at h
  rw [opAdd_ss]
  split at h
  · rename_i q; cases h; rw [if_pos q]
  · cases h
def catL {α : Type} (a b : List α) : Option (List α) := if a.length + b.length ≤ sizeLine then some (a ++ b) else none
theorem p_catl {α : Type} {e : α → D} : Par2 opCat (eL e) (eL e) (eL e) catL := fun a b c h => by
  unfold catL at h
  show (if (a.map e).length + (b.map e).length ≤ sizeLine then some (D.lst (a.map e ++ b.map e)) else none) = _
  rw [List.length_map, List.length_map]
  split at h
  · rename_i q; cases h; rw [if_pos q]; unfold eL; rw [List.map_append]
  · cases h
theorem opAdd_ll (a b : List D) : opAdd (.lst a) (.lst b) = opCat (.lst a) (.lst b) := rfl
theorem p_addl {α : Type} {e : α → D} : Par2 opAdd (eL e) (eL e) (eL e) catL := fun a b c h => p_catl a b c h
def repT {α : Type} (a : List α) (k : Int) : Option (List α) := if k < 2 ^ 62 ∧ -(2 ^ 62) < k ∧ a.length * k.toNat ≤ sizeLine then some (List.replicate k.toNat a).flatten else none
theorem p_rep {α : Type} {e : α → D} : Par2 opMul (eL e) D.int (eL e) repT := fun a k c h => by
  unfold repT at h
  show (if k < 2 ^ 62 ∧ -(2 ^ 62) < k ∧ (a.map e).length * k.toNat ≤ sizeLine then some (D.lst (List.replicate k.toNat (a.map e)).flatten) else none) = _
  rw [List.length_map]
  split at h
  · rename_i q; cases h; rw [if_pos q]; unfold eL; rw [List.map_flatten, List.map_replicate]
  · cases h
theorem s_l {α : Type} {e : α → D} (a : List α) (lo hi : Option Int) : opSl (eL e a) lo hi = some (eL e (cutD a lo hi)) := by
  show some (D.lst (cutD (a.map e) lo hi)) = some (D.lst ((cutD a lo hi).map e))
  unfold cutD
  rw [List.length_map, List.map_take, List.map_drop]
theorem s_lL {α : Type} {e : α → D} (a : List α) (lo hi : Option Int) : opSlL (eL e a) lo hi = some (eL e (cutD a lo hi)) := s_l a lo hi
def cutS' (s : Str) (lo hi : Option Int) : Str := ⟨(cutD s.cps.toList lo hi).toArray⟩
theorem s_s (a : Str) (lo hi : Option Int) : opSl (.str a) lo hi = some (.str (cutS' a lo hi)) := rfl
/-! ### builtins: what is told of arguments -/
section
variable {α : Type} {e : α → D}
theorem b_lenL (xs : List α) : opLen [eL e xs] = some (.int (xs.length : Int)) := by show some (D.int ((xs.map e).length : Int)) = _; rw [List.length_map]
theorem b_lenK (xs : List α) : opLen [eK e xs] = some (.int (xs.length : Int)) := by show some (D.int ((xs.map e).length : Int)) = _; rw [List.length_map]
theorem b_lenS (x : Str) : opLen [.str x] = some (.int (x.length : Int)) := rfl
theorem b_lenscr (x : List Int) : opLen [eS x] = some (.int (x.length : Int)) := rfl
def lenD (d : D) : Option Int := (opLen [d]).bind cI
theorem b_lenD (d : D) (n : Int) (h : lenD d = some n) : opLen [d] = some (.int n) := by
  obtain ⟨a, q1, q2⟩ := bind_eq h
  rw [q1, cI_ok a n q2]
theorem b_listL (xs : List α) : opList [eL e xs] = some (eL e xs) := rfl
def isiD (d : D) (n : String) : Option Bool := (opIsi [d, .ty n]).bind cB
theorem b_isiD (d : D) (n : String) (c : Bool) (h : isiD d n = some c) : opIsi [d, .ty n] = some (.bl c) := by
  obtain ⟨a, q1, q2⟩ := bind_eq h
  rw [q1, cB_ok a c q2]
def b2i (b : Bool) : Int := if b then 1 else 0
theorem b_intB (b : Bool) : opInt [.bl b] = some (.int (b2i b)) := rfl
theorem b_intI (b : Int) : opInt [.int b] = some (.int b) := rfl
def intT (x : Str) : Option Int := if x.length ≤ 640 then PySem.intText? x else none
theorem b_intS (x : Str) (i : Int) (h : intT x = some i) : opInt [.str x] = some (.int i) := by
  unfold intT at h
  rw [opInt_str]
  split at h
  · rename_i q; rw [if_pos q, h]; rfl
  · cases h
def strT (i : Int) : Option Str := if i.natAbs.log2 < 1920 ∧ (intStr i).length ≤ sizeLine then some (intStr i) else none
theorem b_str (i : Int) (s : Str) (h : strT i = some s) : opStr [.int i] = some (.str s) := by
  unfold strT at h
  show (if i.natAbs.log2 < 1920 ∧ (intStr i).length ≤ sizeLine then some (D.str (intStr i)) else none) = _
  split at h
  · rename_i q; cases h; rw [if_pos q]
  · cases h
def min2 (i j : Int) : Int := if j < i then j else i
def max2 (i j : Int) : Int := if j > i then j else i
theorem b_min2 (i j : Int) : opMin2 [.int i, .int j] = some (.int (min2 i j)) := rfl
theorem b_max2 (i j : Int) : opMax2 [.int i, .int j] = some (.int (max2 i j)) := rfl
def absT (i : Int) : Int := if i < 0 then -i else i
theorem b_abs (i : Int) : opAbs [.int i] = some (.int (absT i)) := rfl
theorem intsOf_int (xs : List Int) : intsOf (xs.map D.int) = some xs := by
  induction xs with
  | nil => rfl
  | cons x xs ih => show (intsOf (xs.map D.int)).map (x :: ·) = _; rw [ih]; rfl
def minT (xs : List Int) : Option Int := if xs = [] then none else some (minL xs)
def maxT (xs : List Int) : Option Int := if xs = [] then none else some (maxL xs)
theorem b_min (xs : List Int) (i : Int) (h : minT xs = some i) : opMin [eL D.int xs] = some (.int i) := by
  unfold minT at h
  show ((intsOf (xs.map D.int)).bind fun ns => if ns = [] then none else some (D.int (minL ns))) = _
  rw [intsOf_int, Option.bind_some]
  split at h
  · cases h
  · rename_i q; cases h; rw [if_neg q]
theorem b_max (xs : List Int) (i : Int) (h : maxT xs = some i) : opMax [eL D.int xs] = some (.int i) := by
  unfold maxT at h
  show ((intsOf (xs.map D.int)).bind fun ns => if ns = [] then none else some (D.int (maxL ns))) = _
  rw [intsOf_int, Option.bind_some]
  split at h
  · cases h
  · rename_i q; cases h; rw [if_neg q]
theorem blsOf_bl (xs : List Bool) : blsOf (xs.map D.bl) = some xs := by
  induction xs with
  | nil => rfl
  | cons x xs ih => show (blsOf (xs.map D.bl)).map (x :: ·) = _; rw [ih]; rfl
theorem b_all (xs : List Bool) : opAll [eL D.bl xs] = some (.bl (xs.all id)) := by show (blsOf (xs.map D.bl)).map _ = _; rw [blsOf_bl]; rfl
theorem b_any (xs : List Bool) : opAny [eL D.bl xs] = some (.bl (xs.any id)) := by show (blsOf (xs.map D.bl)).map _ = _; rw [blsOf_bl]; rfl
/-! methods of texts -/
def lowT (x : Str) : Option Str := if x.length ≤ 5592405 ∧ (Txt.lower x).length ≤ sizeLine then some (Txt.lower x) else none
def uppT (x : Str) : Option Str := if x.length ≤ 5592405 ∧ (Txt.upper x).length ≤ sizeLine then some (Txt.upper x) else none
theorem m_lower (x y : Str) (h : lowT x = some y) : mLower x [] = some (.str y) := by
  unfold lowT at h
  show (if x.length ≤ 5592405 ∧ (Txt.lower x).length ≤ sizeLine then some (D.str (Txt.lower x)) else none) = _
  split at h
  · rename_i q; cases h; rw [if_pos q]
  · cases h
theorem m_upper (x y : Str) (h : uppT x = some y) : mUpper x [] = some (.str y) := by
  unfold uppT at h
  show (if x.length ≤ 5592405 ∧ (Txt.upper x).length ≤ sizeLine then some (D.str (Txt.upper x)) else none) = _
  split at h
  · rename_i q; cases h; rw [if_pos q]
  · cases h
theorem m_find (x y : Str) : mFind x [.str y] = some (.int (Txt.find x y)) := rfl
theorem m_count (x y : Str) : mCount x [.str y] = some (.int (Txt.count x y)) := rfl
def joinT (x : Str) (ys : List Str) : Option Str := if (ys.map (·.length)).sum + ys.length * x.length ≤ 16777216 ∧ (Txt.join x ys).length ≤ sizeLine then some (Txt.join x ys) else none
theorem m_join (x : Str) (ys : List Str) (z : Str) (h : joinT x ys = some z) : mJoin x [eL D.str ys] = some (.str z) := by
  unfold joinT at h
  show mJoin x [.lst (ys.map D.str)] = _
  rw [mJoin_lst, strsOf_map, Option.bind_some]
  split at h
  · rename_i q; cases h; rw [if_pos q]
  · cases h
end
/-! ### stores -/
section
variable {α β γ : Type} {f fk fv : Ev} {s' : Sv} {δ : Env} {e : α → D} {x : α} {g : β → Out} {i : Nat} {xs ys : List α}
def putLT (xs : List α) (k : Int) (x : α) : Option (List α) := (ixN xs.length k).bind fun j => some (xs.set j x)
theorem put_eq {v : List α} {k : Int} (h : putLT xs k x = some v) (hf : fv δ = some (e x)) (hk : fk δ = some (.int k)) (hv : δ[i]? = some (some (eL e xs))) : sPut i fk fv δ = some (.nx (δ.set i (some (eL e v)))) := by
  obtain ⟨j, q1, q2⟩ := bind_eq h
  cases q2
  rw [sPut_def, hf, Option.bind_some, hk, Option.bind_some, vVar_def, hv]
  show ((ixN (xs.map e).length k).map fun j => D.lst ((xs.map e).set j (e x))).map _ = _
  rw [List.length_map, q1]
  show some (Out.nx (δ.set i (some (D.lst ((xs.map e).set j (e x)))))) = _
  unfold eL; rw [List.map_set]
theorem stPutM {K : List α → Option β} {T : Option α} {k : Option Int} (a : EvM fv δ e T) (b : EvM fk δ D.int k) (h : ∀ v, St s' (δ.set i (some (eL e v))) g (K v)) (hv : δ[i]? = some (some (eL e xs)) := by rfl) : St (sSeq (sPut i fk fv) s') δ g (T.bind fun x => k.bind fun k => (putLT xs k x).bind K) := fun r q => by
  obtain ⟨x, q1, q2⟩ := bind_eq q
  obtain ⟨k', q3, q4⟩ := bind_eq q2
  obtain ⟨v, q5, q6⟩ := bind_eq q4
  rw [sSeq_def, put_eq q5 (a x q1) (b k' q3) hv]
  exact h v r q6
theorem ext_eq {v : List α} (h : extT xs ys = some v) (hf : f δ = some (eL e ys)) (hv : δ[i]? = some (some (eL e xs))) : sExt i f δ = some (.nx (δ.set i (some (eL e v)))) := by
  unfold extT at h
  split at h
  · rename_i c
    cases h
    unfold sExt
    rw [vVar_def, hv]
    show ((f δ).bind fun d => match d with | .lst es => if (xs.map e).length + es.length ≤ sizeLine then some (putL i δ (xs.map e ++ es)) else none | _ => none) = _
    rw [hf, Option.bind_some]
    show (if (xs.map e).length + (ys.map e).length ≤ sizeLine then some (putL i δ (xs.map e ++ ys.map e)) else none) = _
    rw [List.length_map, List.length_map, if_pos c, putL_def, ← List.map_append]; rfl
  · cases h
theorem stExtM {K : List α → Option β} {T : Option (List α)} (a : EvM f δ (eL e) T) (h : ∀ v, St s' (δ.set i (some (eL e v))) g (K v)) (hv : δ[i]? = some (some (eL e xs)) := by rfl) : St (sSeq (sExt i f) s') δ g (T.bind fun ys => (extT xs ys).bind K) := fun r q => by
  obtain ⟨y, q1, q2⟩ := bind_eq q
  obtain ⟨v, q3, q4⟩ := bind_eq q2
  rw [sSeq_def, ext_eq q3 (a y q1) hv]
  exact h v r q4
/-- a, b = x, y -/
theorem stPar {i j : Nat} {α' : Type} {e2 : α' → D} {y : α'} {fr : Env → Option (List D)} {K : α → α' → Option β} (h1 : fr δ = some [e x, e2 y]) (h : ∀ v w, St s' ((δ.set i (some (e v))).set j (some (e2 w))) g (K v w)) : St (sSeq (sPar i j fr) s') δ g (lett x fun v => lett y fun w => K v w) := fun r q => by
  rw [sSeq_def, sPar_def, h1]
  exact h x y r q
end
/-! ### a def -/
theorem def_of {α : Type} {n np : Nat} {rm : Mode} {s : Sv} {ds : List D} {e : α → D} {T : Option α} (hl : ds.length = np) (h : St s (ds.map some ++ List.replicate (n - np) none) (fun r => .rt (e r)) T) : ∀ r, T = some r → denOf n np rm s ds = some (e r) := fun r q => by
  unfold denOf
  rw [if_pos hl, h r q]; rfl
/-- one that ends without a value -/
theorem def_ofU {σ : Type} {n np : Nat} {s : Sv} {ds : List D} {E : σ → Env} {T : Option σ} (hl : ds.length = np) (h : St s (ds.map some ++ List.replicate (n - np) none) (fun v => .nx (E v)) T) : ∀ r, T = some r → denOf n np .sh s ds = some .non := fun r q => by
  unfold denOf
  rw [if_pos hl, h r q]; rfl
theorem def_ofC {σ ρ : Type} {n np : Nat} {s : Sv} {ds : List D} {E : σ → Env} {e : ρ → D} {T : Option (Ctl σ ρ)} (d : ρ) (hd : e d = .non) (hl : ds.length = np) (h : St s (ds.map some ++ List.replicate (n - np) none) (outF E e) T) : ∀ r, bindC T (fun _ => some d) (fun r => r) = some r → denOf n np .sh s ds = some (e r) := fun r q => by
  obtain ⟨c, q1, q2⟩ := bind_eq q
  unfold denOf
  rw [if_pos hl, h c q1]
  cases c with
  | nx v => cases q2; rw [hd]; rfl
  | rt y => cases q2; rfl
/-- an __init__ -/
theorem init_of {σ : Type} {c : Str} {n np : Nat} {s : Sv} {ds : List D} {E : Addr → σ → Env} {T : Option σ} {G : σ → List (Str × D)} (hl : ds.length + 1 = np) (hs : ds.all (fun d => !isSlf d) = true) (h : ∀ a, St s (some (.slf a c []) :: (ds.map some ++ List.replicate (n - np) none)) (fun v => .nx (E a v)) T) (hE : ∀ a v, (E a v)[0]? = some (some (.slf a c (G v)))) : ∀ v, T = some v → denM (denI c n np s) ds = some (.ins c (G v)) := fun v q => denM_of fun a => by
  unfold denI
  rw [if_pos ⟨hl, hs⟩, h a v q, Option.bind_some]
  show (match (E a v)[0]? with | some (some (D.slf a' c' fs)) => if a' = a ∧ c' = c then some (D.ins c fs) else none | _ => none) = _
  rw [hE]
  exact if_pos ⟨rfl, rfl⟩
/-- self.f = e -/
theorem stFld {β γ : Type} {i : Nat} {a : Addr} {c w : Str} {fs : List (Str × D)} {g : β → Out} {e : γ → D} {x : γ} {f : Ev} {s' : Sv} {δ : Env} {R : Option β} (h : EvP f δ e x) (k : St s' (δ.set i (some (.slf a c (putFD w (e x) fs)))) g R) (hv : δ[i]? = some (some (.slf a c fs)) := by rfl) (hl : fs.length < 1000 := by simp) : St (sSeq (sFldS i w f) s') δ g R := fun r q => by
  unfold EvP at h
  have : sFldS i w f δ = some (.nx (δ.set i (some (.slf a c (putFD w (e x) fs))))) := by
    unfold sFldS
    rw [h, Option.bind_some, vVar_def, hv]
    exact if_pos hl
  rw [sSeq_def, this]
  exact k r q
theorem stFldM {β γ : Type} {i : Nat} {a : Addr} {c w : Str} {fs : List (Str × D)} {g : β → Out} {e : γ → D} {T : Option γ} {f : Ev} {s' : Sv} {δ : Env} {K : γ → Option β} (h : EvM f δ e T) (k : ∀ x, St s' (δ.set i (some (.slf a c (putFD w (e x) fs)))) g (K x)) (hv : δ[i]? = some (some (.slf a c fs)) := by rfl) (hl : fs.length < 1000 := by simp) : St (sSeq (sFldS i w f) s') δ g (T.bind K) := fun r q => by
  obtain ⟨x, q1, q2⟩ := bind_eq q
  exact stFld (h x q1) (k x) hv hl r q2
/-! more -/
section
variable {α β γ : Type} {f g : Ev} {δ : Env} {e : α → D} {x : α} {k : List D → Option D} {T : Option α}
theorem arMtot (h : k [] = some (e x)) : ArM aNil δ k e (some x) := fun r q => by cases q; exact h
theorem isiK {d : D} {a n : String} {b : Bool} (h1 : tyName d = some a) (h2 : kitB a n = some b ∧ isiB a n = b) : opIsi [d, .ty n] = some (.bl b) := by
  show (tyName d).bind _ = _
  rw [h1, Option.bind_some, if_pos (by rw [h2.1, h2.2]), h2.2]
theorem isiO {a n : String} {b : Bool} (x : Option α) (h1 : ∀ y, tyName (e y) = some a) (h2 : kitB a n = some b ∧ isiB a n = b) (h3 : kitB "NoneType" n = some false ∧ isiB "NoneType" n = false) : opIsi [eO e x, .ty n] = some (.bl (x.isSome && b)) := by
  cases x with
  | none => exact isiK (d := .non) rfl h3
  | some y => rw [show eO e (some y) = e y from rfl, isiK (h1 y) h2]; simp
theorem eL_conv {e' : β → D} (c : α → β) (h : ∀ a, e' (c a) = e a) (xs : List α) : eL e' (xs.map c) = eL e xs := by
  unfold eL; rw [List.map_map]; congr 1; exact List.map_congr_left fun a _ => h a
theorem eO_conv {e' : β → D} (c : α → β) (h : ∀ a, e' (c a) = e a) (x : Option α) : eO e' (x.map c) = eO e x := by
  cases x with
  | none => rfl
  | some y => exact h y
theorem eT2_conv {α' β' : Type} {e1 : α → D} {e2 : β → D} {f1 : α' → D} {f2 : β' → D} (c1 : α → α') (c2 : β → β') (h1 : ∀ a, f1 (c1 a) = e1 a) (h2 : ∀ a, f2 (c2 a) = e2 a) (p : α × β) : eT2 f1 f2 ((c1 p.1, c2 p.2) : α' × β') = eT2 e1 e2 p := by
  unfold eT2; rw [h1, h2]
/-- a tuple walked -/
theorem itTup2 {p : α × α} (a : EvP f δ (eT2 e e) p) : ItP (iAnyF f) δ e [p.1, p.2] := by unfold EvP ItP at *; rw [iAnyF_def, a]; rfl
theorem lcT_len {P : α → Option Bool} {G : α → Option β} : ∀ {xs : List α} {ys : List β}, lcT P G xs = some ys → ys.length ≤ xs.length
  | [], ys, h => by cases h; exact Nat.le_refl _
  | x :: xs, ys, h => by
    obtain ⟨b, q1, q2⟩ := bind_eq h
    by_cases hb : b = true
    · rw [if_pos hb] at q2
      obtain ⟨y, q3, q4⟩ := bind_eq q2
      obtain ⟨zs, q5, q6⟩ := bind_eq q4
      cases q6
      exact Nat.succ_le_succ (lcT_len q5)
    · rw [if_neg hb] at q2
      exact Nat.le_succ_of_le (lcT_len q2)
end
end Dl
/-! L: more: sorted, len(set), enumerate, zip, tuples of any length, classes. -/
namespace Dl
open PySem L2
def eV {α : Type} (e : α → D) (xs : List α) : D := .tup (xs.map e)
def cT2 {α β : Type} (c1 : D → Option α) (c2 : D → Option β) : D → Option (α × β)
  | .tup [a, b] => (c1 a).bind fun x => (c2 b).bind fun y => some (x, y)
  | _ => none
theorem cT2_ok {α β : Type} {e1 : α → D} {e2 : β → D} {c1 : D → Option α} {c2 : D → Option β} (h1 : ∀ d a, c1 d = some a → d = e1 a) (h2 : ∀ d a, c2 d = some a → d = e2 a) : ∀ d p, cT2 c1 c2 d = some p → d = eT2 e1 e2 p := fun d p h => by
  unfold cT2 at h
  split at h
  · obtain ⟨x, q1, q2⟩ := bind_eq h
    obtain ⟨y, q3, q4⟩ := bind_eq q2
    cases q4
    rw [h1 _ _ q1, h2 _ _ q3]; rfl
  · cases h
theorem cT2_map {α β : Type} {e1 : α → D} {e2 : β → D} {c1 : D → Option α} {c2 : D → Option β} (h1 : ∀ a, c1 (e1 a) = some a) (h2 : ∀ a, c2 (e2 a) = some a) (p : α × β) : cT2 c1 c2 (eT2 e1 e2 p) = some p := by
  show (c1 (e1 p.1)).bind (fun x => (c2 (e2 p.2)).bind fun y => some (x, y)) = _
  rw [h1, h2]; rfl
section
variable {α β : Type} {f g : Ev} {fr : Env → Option (List D)} {δ : Env} {e : α → D} {e2 : β → D} {xs : List α} {X : Option (List α)}
/-! sorted -/
def sortIT (xs : List Int) : Option (List Int) := some (sortI xs)
theorem b_sortI (xs ys : List Int) (h : sortIT xs = some ys) : opSorted [eL D.int xs] = some (eL D.int ys) := by
  cases h
  show (intsOf (xs.map D.int)).map _ = _
  rw [intsOf_int]; rfl
def sortDT (d : D) : Option (List Int) := (opSorted [d]).bind (cL cI)
theorem b_sortD (d : D) (ys : List Int) (h : sortDT d = some ys) : opSorted [d] = some (eL D.int ys) := by
  obtain ⟨r, q1, q2⟩ := bind_eq h
  rw [q1, cL_ok cI_ok r ys q2]
@[simp] theorem sortDT_int (xs : List Int) : sortDT (eL D.int xs) = some (sortI xs) := by
  unfold sortDT
  rw [b_sortI xs _ rfl, Option.bind_some]
  exact cL_eL (e := D.int) (fun _ => rfl) _
def sortSetT (xs : List Int) : Option (List Int) := if xs.length < 64 then some (setSort xs) else none
theorem sortSetP {xs : List Int} (h : EvP f δ (eL D.int) xs) : EvM (vSortSet f) δ (eL D.int) (sortSetT xs) := fun ys q => by
  unfold sortSetT at q
  unfold EvP at h
  split at q
  · rename_i c
    cases q
    rw [vSortSet_def, h]
    show ((intsOf (xs.map D.int)).bind fun ns => if ns.length < 64 then some (D.lst ((setSort ns).map D.int)) else none) = _
    rw [intsOf_int, Option.bind_some, if_pos c]; rfl
  · cases q
theorem sortSetM {X : Option (List Int)} (h : EvM f δ (eL D.int) X) : EvM (vSortSet f) δ (eL D.int) (X.bind sortSetT) := fun ys q => by
  obtain ⟨xs, q1, q2⟩ := bind_eq q
  exact sortSetP (h xs q1) ys q2
/-! len(set) -/
theorem lenSetDP {d : D} (h : EvP f δ eD d) : EvM (vLenSet f) δ D.int (lenSetD d) := fun i q => by
  unfold EvP at h
  show (f δ).bind (fun d => (lenSetD d).map D.int) = _
  rw [h, Option.bind_some, q]; rfl
theorem lenSetDM {d : Option D} (h : EvM f δ eD d) : EvM (vLenSet f) δ D.int (d.bind lenSetD) := fun i q => by
  obtain ⟨x, q1, q2⟩ := bind_eq q
  exact lenSetDP (h x q1) i q2
def lenSetT [DecidableEq α] (xs : List α) : Option Int := if xs.length ≤ 4000 then some (nd xs : Nat) else none
theorem lenSetD_int (xs : List Int) : lenSetD (eL D.int xs) = lenSetT xs := by
  show (if (xs.map D.int).length ≤ 4000 then match intsOf (xs.map D.int) with | some ns => some ((nd ns : Nat) : Int) | none => (strsOf (xs.map D.int)).bind fun ys => some ((nd ys : Nat) : Int) else none) = _
  rw [intsOf_int, List.length_map]; rfl
theorem strsOf_str (xs : List Str) : strsOf (xs.map D.str) = some xs := strsOf_map xs
theorem lenSetD_str (xs : List Str) : lenSetD (eL D.str xs) = lenSetT xs := by
  show (if (xs.map D.str).length ≤ 4000 then match intsOf (xs.map D.str) with | some ns => some ((nd ns : Nat) : Int) | none => (strsOf (xs.map D.str)).bind fun ys => some ((nd ys : Nat) : Int) else none) = _
  rw [strsOf_str, List.length_map]
  cases xs with
  | nil => rfl
  | cons x xs => rfl
theorem lenSetIP {xs : List Int} (h : EvP f δ (eL D.int) xs) : EvM (vLenSet f) δ D.int (lenSetT xs) := by rw [← lenSetD_int]; exact lenSetDP (show EvP f δ eD (eL D.int xs) from h)
theorem lenSetSP {xs : List Str} (h : EvP f δ (eL D.str) xs) : EvM (vLenSet f) δ D.int (lenSetT xs) := by rw [← lenSetD_str]; exact lenSetDP (show EvP f δ eD (eL D.str xs) from h)
theorem lenSetIM {X : Option (List Int)} (h : EvM f δ (eL D.int) X) : EvM (vLenSet f) δ D.int (X.bind lenSetT) := fun i q => by
  obtain ⟨x, q1, q2⟩ := bind_eq q
  exact lenSetIP (h x q1) i q2
theorem lenSetSM {X : Option (List Str)} (h : EvM f δ (eL D.str) X) : EvM (vLenSet f) δ D.int (X.bind lenSetT) := fun i q => by
  obtain ⟨x, q1, q2⟩ := bind_eq q
  exact lenSetSP (h x q1) i q2
/-! enumerate, zip -/
def enumT (xs : List α) : List (Int × α) := xs.mapIdx fun i x => ((i : Int), x)
theorem enumT_map (xs : List α) : (enumT xs).map (eT2 D.int e) = enumD (xs.map e) := by
  unfold enumT enumD
  apply List.ext_getElem?
  intro i
  rw [List.getElem?_map, List.getElem?_mapIdx, List.getElem?_mapIdx, List.getElem?_map]
  cases xs[i]? <;> rfl
theorem itEnL (h : EvP f δ (eL e) xs) : ItP (iEnumerateF (aCons f aNil)) δ (eT2 D.int e) (enumT xs) := by
  unfold ItP EvP at *
  show (aCons f aNil δ).bind _ = _
  rw [aCons_def, h, enumT_map]; rfl
theorem itEnLM (h : EvM f δ (eL e) X) : ItM (iEnumerateF (aCons f aNil)) δ (eT2 D.int e) (X.bind fun xs => some (enumT xs)) := fun y q => by
  obtain ⟨z, q1, q2⟩ := bind_eq q
  cases q2
  exact itEnL (h z q1)
theorem itEnS {s : Str} (h : EvP f δ D.str s) : ItP (iEnumerateF (aCons f aNil)) δ (eT2 D.int D.str) (enumT (sgs s)) := by
  unfold ItP EvP at *
  show (aCons f aNil δ).bind _ = _
  rw [aCons_def, h, enumT_map]
  show some (enumD (signs s)) = some (enumD ((sgs s).map D.str))
  unfold sgs signs
  rw [List.map_map]; rfl
theorem itEnSM {s : Option Str} (h : EvM f δ D.str s) : ItM (iEnumerateF (aCons f aNil)) δ (eT2 D.int D.str) (s.bind fun s => some (enumT (sgs s))) := fun y q => by
  obtain ⟨z, q1, q2⟩ := bind_eq q
  cases q2
  exact itEnS (h z q1)
theorem itZipM {Y : Option (List β)} (a : EvM f δ (eL e) X) (b : EvM g δ (eL e2) Y) : ItM (iZipF (aCons f (aCons g aNil))) δ (eT2 e e2) (X.bind fun xs => Y.bind fun ys => some (xs.zip ys)) := fun y q => by
  obtain ⟨xs, q1, q2⟩ := bind_eq q
  obtain ⟨ys, q3, q4⟩ := bind_eq q2
  cases q4
  show (aCons f (aCons g aNil) δ).bind _ = _
  rw [aCons_def, a xs q1, Option.bind_some, aCons_def, b ys q3]
  show some (((xs.map e).zip (ys.map e2)).map fun p => D.tup [p.1, p.2]) = _
  rw [List.zip_map, List.map_map]; rfl
/-! slices -/
theorem s_scr (a : List Int) (lo hi : Option Int) : opSl (eS a) lo hi = some (eL D.int (cutD a lo hi)) := s_l a lo hi
def cD (d : D) : Option D := some d
theorem cD_ok : ∀ d a, cD d = some a → d = eD a := fun d a h => by cases h; rfl
theorem slD {L H : Option (Option Int)} {l u : Env → Option (Option Int)} {T : Option D} (a : EvM f δ eD T) (b : PtM l δ L) (c : PtM u δ H) : EvM (vSl opSl f l u) δ eD (T.bind fun x => L.bind fun lo => H.bind fun hi => opSl x lo hi) := fun y q => by
  obtain ⟨x, q1, q2⟩ := bind_eq q
  obtain ⟨lo, q3, q4⟩ := bind_eq q2
  obtain ⟨hi, q5, q6⟩ := bind_eq q4
  rw [vSl_def, a _ q1, Option.bind_some, b _ q3, Option.bind_some, c _ q5, Option.bind_some, q6]
/-! list(..), tuple(..) of data -/
def listD (d : D) : Option (List D) := match opList [d] with | some (.lst ds) => some ds | _ => none
theorem b_listD (d : D) (xs : List D) (h : listD d = some xs) : opList [d] = some (eL eD xs) := by
  unfold listD at h
  split at h
  · rename_i ds q
    cases h
    rw [q, eL_id]
  · cases h
def tupleD (d : D) : Option D := opTuple [d]
theorem b_tupleD (d : D) (x : D) (h : tupleD d = some x) : opTuple [d] = some (eD x) := h
theorem argsP2 {x : α} {y : β} (a : EvP f δ e x) (b : EvP g δ e2 y) : aCons f (aCons g aNil) δ = some [e x, e2 y] := by
  unfold EvP at *
  rw [aCons_def, a, Option.bind_some, aCons_def, b]; rfl
end
/-! ### methods of a class -/
structure DfnM (K : PySem.W.Frag) (x qual : Str) (st : Stmt) (ps : List Str) where
  f : Addr
  fd : FuncData
  fn : Fun K x qual st f fd
  bd : Binds K fd ps []
/-! ### boards, games -/
structure TBoard where
  wide : Int
  high : Int
  holes : List Int
  deriving DecidableEq
def eBoard (b : TBoard) : D := .ins "Board" [("wide", .int b.wide), ("high", .int b.high), ("holes", eL .int b.holes)]
structure TGame where
  board : TBoard
  kinds : List Str
  rules : List (Str × Str × Str × Int × Int)
  turns : List (Str × Str)
  ends : List (Str × Str)
  stuck : Str
  deriving DecidableEq
def eGame (g : TGame) : D := .ins "Game" [("board", eBoard g.board), ("kinds", eL D.str g.kinds), ("rules", eL (eT5 D.str D.str D.str D.int D.int) g.rules), ("turns", eL (eT2 D.str D.str) g.turns), ("ends", eL (eT2 D.str D.str) g.ends), ("stuck", .str g.stuck)]
theorem slf_int (a : Int) : isSlf (.int a) = false := rfl
/-! ### a tuple of the module's top -/
theorem ktup_rep {K : PySem.W.Frag} {Γ : CM} {A : Addr} {o : Obj} {its : Array Value} {n : Nat} {ds : List D} {ws : List V} (l : K.lookup A = some o) (hc : o.cls = .type "tuple") (hd : o.data = .seq its n) (hz : its.size ≤ sizeLine) (hv : Vals ws its.toList) (hl : ds.length ≤ sizeLine) (r : ∀ S, RepL K Γ S ds ws) : ∀ S, Rep K Γ S (.ktup ds) (.ref A) := fun S =>
  ⟨A, ws, rfl, .inr ⟨o, its, n, l, hc, hd, hz, hv⟩, hl, r S⟩
end Dl
/-! L: dicts, list(dict), sorted of pairs. -/
namespace Dl
open PySem L2
def kII (p : Int × Int) : List Key := [.inl p.1, .inl p.2]
def kSI (p : Str × Int) : List Key := [.inr p.1, .inl p.2]
theorem kI_inj (a b : Int) (h : kI a = kI b) : a = b := Sum.inl.inj h
theorem kS_inj (a b : Str) (h : kS a = kS b) : a = b := Sum.inr.inj h
theorem kII_inj (a b : Int × Int) (h : kII a = kII b) : a = b := by
  have h : [Sum.inl a.1, Sum.inl a.2] = ([.inl b.1, .inl b.2] : List Key) := h
  injection h with h1 h2
  injection h2 with h2 _
  exact Prod.ext (Sum.inl.inj h1) (Sum.inl.inj h2)
theorem kSI_inj (a b : Str × Int) (h : kSI a = kSI b) : a = b := by
  have h : [Sum.inr a.1, Sum.inl a.2] = ([.inr b.1, .inl b.2] : List Key) := h
  injection h with h1 h2
  injection h2 with h2 _
  exact Prod.ext (Sum.inr.inj h1) (Sum.inl.inj h2)
section
variable {κ κ' α : Type} [DecidableEq κ] [DecidableEq κ']
def putA (kvs : List (κ × α)) (k : κ) (a : α) : List (κ × α) := if (kvs.any fun kv => decide (kv.1 = k)) = true then kvs.map (fun kv => if kv.1 = k then (kv.1, a) else kv) else kvs ++ [(k, a)]
def putDT (kvs : List (κ × α)) (k : κ) (a : α) : Option (List (κ × α)) := if kvs.length < sizeLine then some (putA kvs k a) else none
theorem put_enc {ke : κ → κ'} (inj : ∀ a b, ke a = ke b → a = b) (e : α → D) (kvs : List (κ × α)) (k : κ) (a : α) : putD (kvs.map fun p => (ke p.1, e p.2)) (ke k) (e a) = (putA kvs k a).map fun p => (ke p.1, e p.2) := by
  have iff : ∀ j, (ke j = ke k) = (j = k) := fun j => propext ⟨inj j k, fun h => by rw [h]⟩
  unfold putD putA
  have h1 : (kvs.map fun p => (ke p.1, e p.2)).any (fun kv => decide (kv.1 = ke k)) = kvs.any fun kv => decide (kv.1 = k) := by
    rw [List.any_map]
    congr 1
    funext p
    show decide (ke p.1 = ke k) = decide (p.1 = k)
    exact decide_eq_decide.mpr (by rw [iff])
  rw [h1]
  by_cases c : (kvs.any fun kv => decide (kv.1 = k)) = true
  · rw [if_pos c, if_pos c, List.map_map, List.map_map]
    refine List.map_congr_left fun p _ => ?_
    show (if ke p.1 = ke k then (ke p.1, e a) else (ke p.1, e p.2)) = (ke (if p.1 = k then (p.1, a) else p).1, e (if p.1 = k then (p.1, a) else p).2)
    by_cases q : p.1 = k
    · rw [if_pos q, if_pos (by rw [q])]
    · rw [if_neg q, if_neg (fun z => q (inj _ _ z))]
  · rw [if_neg c, if_neg c, List.map_append]; rfl
end
section
variable {κ α β : Type} [DecidableEq κ] {fk fv : Ev} {s' : Sv} {δ : Env} {e : α → D} {g : β → Out} {i : Nat} {kvs : List (κ × α)} {ek : κ → D}
theorem stPutK {ke : κ → Key} {K : List (κ × α) → Option β} {T : Option α} {k : Option κ} (inj : ∀ a b, ke a = ke b → a = b) (hk : ∀ j, keyD (ek j) = some (ke j)) (a : EvM fv δ e T) (b : EvM fk δ ek k) (h : ∀ v, St s' (δ.set i (some (eDK ke e v))) g (K v)) (hv : δ[i]? = some (some (eDK ke e kvs)) := by rfl) :
    St (sSeq (sPut i fk fv) s') δ g (T.bind fun x => k.bind fun k => (putDT kvs k x).bind K) := fun r q => by
  obtain ⟨x, q1, q2⟩ := bind_eq q
  obtain ⟨j, q3, q4⟩ := bind_eq q2
  obtain ⟨v, q5, q6⟩ := bind_eq q4
  unfold putDT at q5
  obtain ⟨c, q5⟩ := ite_some q5
  subst q5
  have ee : sPut i fk fv δ = some (.nx (δ.set i (some (eDK ke e (putA kvs j x))))) := by
    rw [sPut_def, a x q1, Option.bind_some, b j q3, Option.bind_some, vVar_def, hv]
    show ((keyD (ek j)).bind fun j => if (kvs.map _).length < sizeLine then some (D.dicK (putD (kvs.map _) j (e x))) else none).map _ = _
    rw [hk, Option.bind_some, List.length_map, if_pos c, put_enc inj]; rfl
  rw [sSeq_def, ee]
  exact h _ r q6
theorem stPutT {ke : κ → List Key} {K : List (κ × α) → Option β} {T : Option α} {k : Option κ} (inj : ∀ a b, ke a = ke b → a = b) (hk : ∀ j, keysD (ek j) = some (ke j)) (a : EvM fv δ e T) (b : EvM fk δ ek k) (h : ∀ v, St s' (δ.set i (some (eDT ke e v))) g (K v)) (hv : δ[i]? = some (some (eDT ke e kvs)) := by rfl) :
    St (sSeq (sPut i fk fv) s') δ g (T.bind fun x => k.bind fun k => (putDT kvs k x).bind K) := fun r q => by
  obtain ⟨x, q1, q2⟩ := bind_eq q
  obtain ⟨j, q3, q4⟩ := bind_eq q2
  obtain ⟨v, q5, q6⟩ := bind_eq q4
  unfold putDT at q5
  obtain ⟨c, q5⟩ := ite_some q5
  subst q5
  have ee : sPut i fk fv δ = some (.nx (δ.set i (some (eDT ke e (putA kvs j x))))) := by
    rw [sPut_def, a x q1, Option.bind_some, b j q3, Option.bind_some, vVar_def, hv]
    show ((keysD (ek j)).bind fun j => if (kvs.map _).length < sizeLine then some (D.dicT (putD (kvs.map _) j (e x))) else none).map _ = _
    rw [hk, Option.bind_some, List.length_map, if_pos c, put_enc inj]; rfl
  rw [sSeq_def, ee]
  exact h _ r q6
end
theorem hkI (i : Int) : keyD (.int i) = some (kI i) := rfl
theorem hkS (x : Str) : keyD (.str x) = some (kS x) := rfl
theorem hkII (p : Int × Int) : keysD (eT2 D.int D.int p) = some (kII p) := rfl
theorem hkSI (p : Str × Int) : keysD (eT2 D.str D.int p) = some (kSI p) := rfl
/-! list(dict) -/
def keysT {κ α : Type} (ok : κ → Bool) (kvs : List (κ × α)) : Option (List κ) := if kvs.length ≤ sizeLine ∧ (kvs.all fun kv => ok kv.1) = true then some (kvs.map (·.1)) else none
theorem b_listDK {κ α : Type} {ke : κ → Key} {ek : κ → D} {e : α → D} (h : ∀ k, kD (ke k) = ek k) (kvs : List (κ × α)) (ks : List κ) (q : keysT (fun k => kOk (ke k)) kvs = some ks) : opListD [eDK ke e kvs] = some (eL ek ks) := by
  unfold keysT at q
  obtain ⟨c, rfl⟩ := ite_some q
  show (if (kvs.map fun p => (ke p.1, e p.2)).length ≤ sizeLine ∧ ((kvs.map fun p => (ke p.1, e p.2)).all fun kv => kOk kv.1) = true then some (D.lst ((kvs.map fun p => (ke p.1, e p.2)).map fun kv => kD kv.1)) else none) = _
  rw [if_pos ⟨by rw [List.length_map]; exact c.1, by rw [List.all_map]; exact c.2⟩]
  unfold eL
  rw [List.map_map, List.map_map]
  congr 2
  exact List.map_congr_left fun p _ => h p.1
theorem b_listDT {κ α : Type} {ke : κ → List Key} {ek : κ → D} {e : α → D} (h : ∀ k, D.tup ((ke k).map kD) = ek k) (kvs : List (κ × α)) (ks : List κ) (q : keysT (fun k => ksOk (ke k)) kvs = some ks) : opListD [eDT ke e kvs] = some (eL ek ks) := by
  unfold keysT at q
  obtain ⟨c, rfl⟩ := ite_some q
  show (if (kvs.map fun p => (ke p.1, e p.2)).length ≤ sizeLine ∧ ((kvs.map fun p => (ke p.1, e p.2)).all fun kv => ksOk kv.1) = true then some (D.lst ((kvs.map fun p => (ke p.1, e p.2)).map fun kv => .tup (kv.1.map kD))) else none) = _
  rw [if_pos ⟨by rw [List.length_map]; exact c.1, by rw [List.all_map]; exact c.2⟩]
  unfold eL
  rw [List.map_map, List.map_map]
  congr 2
  exact List.map_congr_left fun p _ => h p.1
theorem kdI (i : Int) : kD (kI i) = .int i := rfl
theorem kdS (x : Str) : kD (kS x) = .str x := rfl
theorem kdII (p : Int × Int) : D.tup ((kII p).map kD) = eT2 D.int D.int p := rfl
theorem kdSI (p : Str × Int) : D.tup ((kSI p).map kD) = eT2 D.str D.int p := rfl
/-! sorted of pairs -/
def sortPT (ps : List (Int × Int)) : Option (List (Int × Int)) := some (sortP ps)
theorem pairsOf_enc : ∀ (ps : List (Int × Int)), pairsOf (ps.map (eT2 D.int D.int)) = some ps
  | [] => rfl
  | p :: ps => by
    show (pairsOf (ps.map (eT2 D.int D.int))).map ((p.1, p.2) :: ·) = _
    rw [pairsOf_enc ps]; rfl
theorem b_sortP (ps qs : List (Int × Int)) (h : sortPT ps = some qs) : opSortedD [eL (eT2 D.int D.int) ps] = some (eL (eT2 D.int D.int) qs) := by
  cases h
  cases ps with
  | nil =>
    have e1 : sortI [] = [] := List.Perm.eq_nil (sortI_perm [])
    have e2 : sortP [] = [] := List.Perm.eq_nil (sortP_perm [])
    show some (D.lst ((sortI []).map D.int)) = _
    rw [e1, e2]; rfl
  | cons p ps =>
    show (pairsOf ((p :: ps).map (eT2 D.int D.int))).map (fun ps => D.lst ((sortP ps).map pD)) = _
    rw [pairsOf_enc]; rfl
/-- membership by the equality of the items (products) -/
def memB {α : Type} [DecidableEq α] (a : α) (l : List α) : Bool := decide (a ∈ l)
theorem memB_iff {α : Type} [DecidableEq α] {a : α} {l : List α} : memB a l = true ↔ a ∈ l := by unfold memB; exact decide_eq_true_iff
theorem itTup3 {α : Type} {f : Ev} {δ : Env} {e : α → D} {p : α × α × α} (a : EvP f δ (eT3 e e e) p) : ItP (iAnyF f) δ e [p.1, p.2.1, p.2.2] := by unfold EvP ItP at *; rw [iAnyF_def, a]; rfl
/-! while with a return -/
section
variable {σ ρ : Type} {p : Env → Option Bool} {body : Sv} {δ : Env}
theorem whT_ok {E : σ → Env} {e2 : ρ → D} {Pw : σ → Option Bool} {Bd : σ → Option (Ctl σ ρ)} (hp : ∀ v, TsM p (E v) (Pw v)) (hb : ∀ v, St body (E v) (outF E e2) (Bd v)) : ∀ (n : Nat) (v : σ) (r : Ctl σ ρ), whT Pw Bd n v = some r → whileD p body n (E v) = some (outF E e2 r)
  | 0, v, r, h => by cases h
  | n + 1, v, r, h => by
    obtain ⟨c, q1, q2⟩ := bind_eq h
    show ((p (E v)).bind fun b => if b = true then (body (E v)).bind fun o => match o with | .nx δ1 => whileD p body n δ1 | o => some o else some (.nx (E v))) = _
    rw [hp v c q1, Option.bind_some]
    cases c with
    | true =>
      rw [if_pos rfl] at q2 ⊢
      obtain ⟨o, q3, q4⟩ := bind_eq q2
      rw [hb v o q3, Option.bind_some]
      cases o with
      | nx v' => exact whT_ok hp hb n v' r q4
      | rt x => cases q4; rfl
    | false => rw [if_neg Bool.false_ne_true] at q2 ⊢; cases q2; rfl
theorem stWhileC {E : σ → Env} {e2 : ρ → D} {Pw : σ → Option Bool} {Bd : σ → Option (Ctl σ ρ)} (v0 : σ) (h0 : E v0 = δ) (hp : ∀ v, TsM p (E v) (Pw v)) (hb : ∀ v, St body (E v) (outF E e2) (Bd v)) : St (sWhile p body) δ (outF E e2) (whT Pw Bd fuel v0) := fun r q => by
  rw [← h0]; exact whT_ok hp hb fuel v0 r q
end
end Dl
/-! L: dict(pairs), d.get, d[k] of dicts. -/
namespace Dl
open PySem L2
section
variable {κ α : Type} [DecidableEq κ]
def dictT (ps : List (κ × α)) : List (κ × α) := ps.foldl (fun acc p => putA acc p.1 p.2) []
def lookA : List (κ × α) → κ → Option α
  | [], _ => none
  | (k, a) :: r, j => if k = j then some a else lookA r j
theorem merge_enc {κ' : Type} [DecidableEq κ'] {ke : κ → κ'} (inj : ∀ a b, ke a = ke b → a = b) (e : α → D) : ∀ (ps acc : List (κ × α)), mergeD (acc.map fun p => (ke p.1, e p.2)) (ps.map fun p => (ke p.1, e p.2)) = (ps.foldl (fun acc p => putA acc p.1 p.2) acc).map fun p => (ke p.1, e p.2)
  | [], _ => rfl
  | p :: ps, acc => by
    have : mergeD (acc.map fun p => (ke p.1, e p.2)) ((p :: ps).map fun p => (ke p.1, e p.2)) = mergeD (putD (acc.map fun p => (ke p.1, e p.2)) (ke p.1) (e p.2)) (ps.map fun p => (ke p.1, e p.2)) := rfl
    rw [this, put_enc inj, merge_enc inj e ps]; rfl
theorem pairsKD_enc {ke : κ → Key} {ek : κ → D} (hk : ∀ j, keyD (ek j) = some (ke j)) (e : α → D) : ∀ ps : List (κ × α), pairsKD (ps.map (eT2 ek e)) = some (ps.map fun p => (ke p.1, e p.2))
  | [] => rfl
  | p :: ps => by
    show (keyD (ek p.1)).bind (fun j => (pairsKD (ps.map (eT2 ek e))).map ((j, e p.2) :: ·)) = _
    rw [hk, Option.bind_some, pairsKD_enc hk e ps]; rfl
theorem b_dictP {ke : κ → Key} {ek : κ → D} {e : α → D} (inj : ∀ a b, ke a = ke b → a = b) (hk : ∀ j, keyD (ek j) = some (ke j)) (ps : List (κ × α)) : opDictP [eL (eT2 ek e) ps] = some (eDK ke e (dictT ps)) := by
  show (pairsKD (ps.map (eT2 ek e))).map (fun kvs => D.dicK (mergeD [] kvs)) = _
  rw [pairsKD_enc hk]
  show some (D.dicK (mergeD (([] : List (κ × α)).map fun p => (ke p.1, e p.2)) _)) = _
  rw [merge_enc inj]; rfl
theorem lookK_enc {ke : κ → Key} (inj : ∀ a b, ke a = ke b → a = b) (e : α → D) (j : κ) : ∀ kvs : List (κ × α), lookK (kvs.map fun p => (ke p.1, e p.2)) (ke j) = (lookA kvs j).map e
  | [] => rfl
  | (k, a) :: r => by
    show (if ke k = ke j then some (e a) else lookK (r.map fun p => (ke p.1, e p.2)) (ke j)) = (if k = j then some a else lookA r j).map e
    by_cases c : k = j
    · rw [if_pos c, if_pos (by rw [c])]; rfl
    · rw [if_neg c, if_neg fun z => c (inj _ _ z)]; exact lookK_enc inj e j r
theorem lookT_enc {ke : κ → List Key} (inj : ∀ a b, ke a = ke b → a = b) (e : α → D) (j : κ) : ∀ kvs : List (κ × α), lookT (kvs.map fun p => (ke p.1, e p.2)) (ke j) = (lookA kvs j).map e
  | [] => rfl
  | (k, a) :: r => by
    show (if ke k = ke j then some (e a) else lookT (r.map fun p => (ke p.1, e p.2)) (ke j)) = (if k = j then some a else lookA r j).map e
    by_cases c : k = j
    · rw [if_pos c, if_pos (by rw [c])]; rfl
    · rw [if_neg c, if_neg fun z => c (inj _ _ z)]; exact lookT_enc inj e j r
variable {fo fk fd : Ev} {δ : Env} {e : α → D} {ek : κ → D} {X : Option (List (κ × α))} {Kx : Option κ} {Dx : Option α}
theorem vGet2_def (fo fk fd : Ev) (δ : Env) : vGet2 fo fk fd δ = (fo δ).bind fun o => (fk δ).bind fun k => (fd δ).bind fun d => opGet o k d := rfl
theorem vGet1_def (fo fk : Ev) (δ : Env) : vGet1 fo fk δ = (fo δ).bind fun o => (fk δ).bind fun k => opGet o k .non := rfl
theorem opGet_K {ke : κ → Key} (inj : ∀ a b, ke a = ke b → a = b) (hk : ∀ j, keyD (ek j) = some (ke j)) (kvs : List (κ × α)) (j : κ) (d : D) : opGet (eDK ke e kvs) (ek j) d = some (((lookA kvs j).map e).getD d) := by
  show (keyD (ek j)).map (fun j => (lookK (kvs.map fun p => (ke p.1, e p.2)) j).getD d) = _
  rw [hk]
  show some ((lookK (kvs.map fun p => (ke p.1, e p.2)) (ke j)).getD d) = _
  rw [lookK_enc inj]
theorem opGet_T {ke : κ → List Key} (inj : ∀ a b, ke a = ke b → a = b) (hk : ∀ j, keysD (ek j) = some (ke j)) (kvs : List (κ × α)) (j : κ) (d : D) : opGet (eDT ke e kvs) (ek j) d = some (((lookA kvs j).map e).getD d) := by
  show (keysD (ek j)).map (fun j => (lookT (kvs.map fun p => (ke p.1, e p.2)) j).getD d) = _
  rw [hk]
  show some ((lookT (kvs.map fun p => (ke p.1, e p.2)) (ke j)).getD d) = _
  rw [lookT_enc inj]
theorem getD_map (o : Option α) (d : α) : (o.map e).getD (e d) = e (o.getD d) := by cases o <;> rfl
theorem getD_non (o : Option α) : (o.map e).getD .non = eO e o := by cases o <;> rfl
theorem getK2 {ke : κ → Key} (inj : ∀ a b, ke a = ke b → a = b) (hk : ∀ j, keyD (ek j) = some (ke j)) (a : EvM fo δ (eDK ke e) X) (b : EvM fk δ ek Kx) (c : EvM fd δ e Dx) : EvM (vGet2 fo fk fd) δ e (X.bind fun o => Kx.bind fun k => Dx.bind fun d => some ((lookA o k).getD d)) := fun r q => by
  obtain ⟨o, q1, q2⟩ := bind_eq q
  obtain ⟨k, q3, q4⟩ := bind_eq q2
  obtain ⟨d, q5, q6⟩ := bind_eq q4
  cases q6
  rw [vGet2_def, a o q1, Option.bind_some, b k q3, Option.bind_some, c d q5, Option.bind_some, opGet_K inj hk, getD_map]
theorem getT2 {ke : κ → List Key} (inj : ∀ a b, ke a = ke b → a = b) (hk : ∀ j, keysD (ek j) = some (ke j)) (a : EvM fo δ (eDT ke e) X) (b : EvM fk δ ek Kx) (c : EvM fd δ e Dx) : EvM (vGet2 fo fk fd) δ e (X.bind fun o => Kx.bind fun k => Dx.bind fun d => some ((lookA o k).getD d)) := fun r q => by
  obtain ⟨o, q1, q2⟩ := bind_eq q
  obtain ⟨k, q3, q4⟩ := bind_eq q2
  obtain ⟨d, q5, q6⟩ := bind_eq q4
  cases q6
  rw [vGet2_def, a o q1, Option.bind_some, b k q3, Option.bind_some, c d q5, Option.bind_some, opGet_T inj hk, getD_map]
theorem getK1 {ke : κ → Key} (inj : ∀ a b, ke a = ke b → a = b) (hk : ∀ j, keyD (ek j) = some (ke j)) (a : EvM fo δ (eDK ke e) X) (b : EvM fk δ ek Kx) : EvM (vGet1 fo fk) δ (eO e) (X.bind fun o => Kx.bind fun k => some (lookA o k)) := fun r q => by
  obtain ⟨o, q1, q2⟩ := bind_eq q
  obtain ⟨k, q3, q4⟩ := bind_eq q2
  cases q4
  rw [vGet1_def, a o q1, Option.bind_some, b k q3, Option.bind_some, opGet_K inj hk, getD_non]
theorem getT1 {ke : κ → List Key} (inj : ∀ a b, ke a = ke b → a = b) (hk : ∀ j, keysD (ek j) = some (ke j)) (a : EvM fo δ (eDT ke e) X) (b : EvM fk δ ek Kx) : EvM (vGet1 fo fk) δ (eO e) (X.bind fun o => Kx.bind fun k => some (lookA o k)) := fun r q => by
  obtain ⟨o, q1, q2⟩ := bind_eq q
  obtain ⟨k, q3, q4⟩ := bind_eq q2
  cases q4
  rw [vGet1_def, a o q1, Option.bind_some, b k q3, Option.bind_some, opGet_T inj hk, getD_non]
theorem p_ixdK {ke : κ → Key} (inj : ∀ a b, ke a = ke b → a = b) (hk : ∀ j, keyD (ek j) = some (ke j)) : Par2 opIx (eDK ke e) ek e lookA := fun kvs k c h => by
  have e1 : opIx (eDK ke e kvs) (ek k) = (keyD (ek k)).bind fun j => lookK (kvs.map fun p => (ke p.1, e p.2)) j := by
    show opIx (.dicK _) _ = _
    cases ek k <;> rfl
  rw [e1, hk, Option.bind_some, lookK_enc inj, h]; rfl
theorem p_ixdT {ke : κ → List Key} (inj : ∀ a b, ke a = ke b → a = b) (hk : ∀ j, keysD (ek j) = some (ke j)) : Par2 opIx (eDT ke e) ek e lookA := fun kvs k c h => by
  have e1 : opIx (eDT ke e kvs) (ek k) = (keysD (ek k)).bind fun j => lookT (kvs.map fun p => (ke p.1, e p.2)) j := by
    show opIx (.dicT _) _ = _
    cases ek k <;> rfl
  rw [e1, hk, Option.bind_some, lookT_enc inj, h]; rfl
end
theorem b_listS (x : Str) : opListE [.str x] = some (eL D.str (sgs x)) := by
  show some (D.lst (signs x)) = _
  unfold eL sgs signs
  rw [List.map_map]; rfl
end Dl
/-! L: x.pop(i), x.clear(). -/
namespace Dl
open PySem L2
section
variable {α β : Type} {s' : Sv} {δ : Env} {e : α → D} {g : β → Out} {f : Ev} {i : Nat} {xs : List α}
def popLT (xs : List α) (k : Int) : Option (List α) := if -(2 ^ 63) ≤ k ∧ k < 2 ^ 63 then (ixN xs.length k).bind fun j => some (xs.eraseIdx j) else none
theorem sPop_def (i : Nat) (f : Ev) (δ : Env) : sPop i f δ = (vVar i δ).bind fun l => match l with
  | .lst ds => (f δ).bind fun d => match d with
    | .int j => if -(2 ^ 63) ≤ j ∧ j < 2 ^ 63 then (ixN ds.length j).bind fun k => some (putL i δ (ds.eraseIdx k)) else none
    | _ => none
  | _ => none := rfl
theorem pop_eq {v : List α} {k : Int} (h : popLT xs k = some v) (hf : f δ = some (.int k)) (hv : δ[i]? = some (some (eL e xs))) : sPop i f δ = some (.nx (δ.set i (some (eL e v)))) := by
  unfold popLT at h
  by_cases c : -(2 ^ 63) ≤ k ∧ k < 2 ^ 63
  · rw [if_pos c] at h
    obtain ⟨j, e1, e2⟩ := bind_eq h
    cases e2
    rw [sPop_def, vVar_def, hv]
    show ((f δ).bind fun d => match d with | .int j => if -(2 ^ 63) ≤ j ∧ j < 2 ^ 63 then (ixN (xs.map e).length j).bind fun k => some (putL i δ ((xs.map e).eraseIdx k)) else none | _ => none) = _
    rw [hf, Option.bind_some]
    show (if -(2 ^ 63) ≤ k ∧ k < 2 ^ 63 then (ixN (xs.map e).length k).bind fun k => some (putL i δ ((xs.map e).eraseIdx k)) else none) = _
    rw [if_pos c, List.length_map, e1, Option.bind_some]
    unfold eL putL
    rw [List.eraseIdx_eq_take_drop_succ, List.eraseIdx_eq_take_drop_succ, List.map_append, List.map_take, List.map_drop]
  · rw [if_neg c] at h; cases h
theorem stPop {K : List α → Option β} {k : Option Int} (a : EvM f δ D.int k) (h : ∀ v, St s' (δ.set i (some (eL e v))) g (K v)) (hv : δ[i]? = some (some (eL e xs)) := by rfl) : St (sSeq (sPop i f) s') δ g (k.bind fun k => (popLT xs k).bind K) := fun r q => by
  obtain ⟨k', q3, q4⟩ := bind_eq q
  obtain ⟨v, q5, q6⟩ := bind_eq q4
  rw [sSeq_def, pop_eq q5 (a k' q3) hv]
  exact h v r q6
theorem stClr {K : Option β} (h : St s' (δ.set i (some (eL e ([] : List α)))) g K) (hv : δ[i]? = some (some (eL e xs)) := by rfl) : St (sSeq (sClr i) s') δ g K := fun r q => by
  have : sClr i δ = some (.nx (δ.set i (some (eL e ([] : List α))))) := by
    unfold sClr
    rw [vVar_def, hv]; rfl
  rw [sSeq_def, this]
  exact h r q
end
end Dl
/-! L: sorted of texts. -/
namespace Dl
open PySem L2
theorem strsOf_enc : ∀ xs : List Str, strsOf (xs.map D.str) = some xs
  | [] => rfl
  | x :: xs => by
    show (strsOf (xs.map D.str)).map (x :: ·) = _
    rw [strsOf_enc xs]; rfl
def sortST (xs : List Str) : Option (List Str) := some (sortS xs)
theorem b_sortS (xs ys : List Str) (h : sortST xs = some ys) : opSortedS [eL D.str xs] = some (eL D.str ys) := by
  cases h
  show (strsOf (xs.map D.str)).map (fun xs => D.lst ((sortS xs).map D.str)) = _
  rw [strsOf_enc]; rfl
end Dl
/-! L: xs.index(y), texts. -/
namespace Dl
open PySem L2
def indexT (xs : List Str) (y : Str) : Option Int := (xs.findIdx? fun x => decide (x = y)).map fun (j : Nat) => (j : Int)
theorem idxM {fo fe : Ev} {δ : Env} {X : Option (List Str)} {Y : Option Str} (a : EvM fo δ (eL D.str) X) (b : EvM fe δ D.str Y) : EvM (vIndex fo fe) δ D.int (X.bind fun xs => Y.bind fun y => indexT xs y) := fun r q => by
  obtain ⟨xs, q1, q2⟩ := bind_eq q
  obtain ⟨y, q3, q4⟩ := bind_eq q2
  unfold indexT at q4
  obtain ⟨j, q5, rfl⟩ := map_some q4
  have e : vIndex fo fe δ = (fo δ).bind fun l => (fe δ).bind fun y => opIndex l y := rfl
  rw [e, a xs q1, Option.bind_some, b y q3, Option.bind_some]
  show (strsOf (xs.map D.str)).bind (fun xs => (xs.findIdx? fun x => decide (x = y)).map fun (j : Nat) => D.int (j : Int)) = _
  rw [strsOf_enc, Option.bind_some, q5]; rfl
end Dl
namespace Dl
open PySem L2
def neBX (a b : D) : Option Bool := if (isE0 a && isE0 b) = true then some false else neB a b
theorem d_neX : Par2 opNeX eD eD D.bl neBX := fun a b c h => by
  unfold neBX at h; unfold opNeX
  split at h
  · rename_i q; cases h; rw [if_pos q]
  · rename_i q; rw [if_neg q]; exact d_ne a b c h
end Dl
/-! L: a triple out of any datum. -/
namespace Dl
open PySem L2
def cT3 {α β γ : Type} (c1 : D → Option α) (c2 : D → Option β) (c3 : D → Option γ) : D → Option (α × β × γ)
  | .tup [a, b, c] => (c1 a).bind fun x => (c2 b).bind fun y => (c3 c).bind fun z => some (x, y, z)
  | _ => none
theorem cT3_ok {α β γ : Type} {e1 : α → D} {e2 : β → D} {e3 : γ → D} {c1 : D → Option α} {c2 : D → Option β} {c3 : D → Option γ} (h1 : ∀ d a, c1 d = some a → d = e1 a) (h2 : ∀ d a, c2 d = some a → d = e2 a) (h3 : ∀ d a, c3 d = some a → d = e3 a) : ∀ d p, cT3 c1 c2 c3 d = some p → d = eT3 e1 e2 e3 p := fun d p h => by
  unfold cT3 at h
  split at h
  · obtain ⟨x, q1, h⟩ := bind_eq h
    obtain ⟨y, q2, h⟩ := bind_eq h
    obtain ⟨z, q3, h⟩ := bind_eq h
    cases h
    rw [h1 _ _ q1, h2 _ _ q2, h3 _ _ q3]; rfl
  · cases h
end Dl
/-! plain lemmas over typed programs: loops, comprehensions, sizes, signs. -/
namespace Dl
open PySem L2
section
variable {α β σ ρ : Type}
theorem le_line {n : Nat} (h : n ≤ 1000000) : n ≤ sizeLine := Nat.le_trans h (by decide)
theorem lt_line {n : Nat} (h : n ≤ 1000000) : n < sizeLine := Nat.lt_of_le_of_lt h (by decide)
theorem appT_ok {xs : List α} {x : α} (h : xs.length ≤ 1000000) : appT xs x = some (xs ++ [x]) := if_pos (lt_line h)
theorem extT_ok {xs ys : List α} (h : xs.length + ys.length ≤ 1000000) : extT xs ys = some (xs ++ ys) := if_pos (le_line h)
theorem catL_ok {xs ys : List α} (h : xs.length + ys.length ≤ 1000000) : catL xs ys = some (xs ++ ys) := if_pos (le_line h)
theorem catS_ok {a b : Str} (h : a.length + b.length ≤ 1000000) : catS a b = some (a ++ b) := if_pos (le_line h)
theorem rngT_ok {n : Int} (h0 : -1000000 ≤ n) (h1 : n ≤ 1000000) : rngT n = some (rng n) := if_pos ⟨h0, h1⟩
theorem rng2T_ok {a b : Int} (h : -1000000 ≤ a ∧ a ≤ 1000000 ∧ -1000000 ≤ b ∧ b ≤ 1000000) : rng2T a b = some (rng2 a b) := if_pos h
theorem mem_rng {n k : Int} : k ∈ rng n ↔ 0 ≤ k ∧ k < n := by
  unfold rng
  rw [List.mem_map]
  constructor
  · rintro ⟨i, hi, rfl⟩; have := List.mem_range.mp hi; omega
  · intro h; exact ⟨k.toNat, List.mem_range.mpr (by omega), by omega⟩
theorem mem_rng2 {a b k : Int} : k ∈ rng2 a b ↔ a ≤ k ∧ k < b := by
  unfold rng2
  rw [List.mem_map]
  constructor
  · rintro ⟨i, hi, rfl⟩; have := List.mem_range.mp hi; omega
  · intro h; exact ⟨(k - a).toNat, List.mem_range.mpr (by omega), by omega⟩
theorem rng_len (n : Int) : (rng n).length = n.toNat := by unfold rng; simp
theorem rng_get {n : Int} {i : Nat} (h : (i : Int) < n) : (rng n)[i]? = some (i : Int) := by
  unfold rng
  rw [List.getElem?_map, List.getElem?_range (by omega)]; rfl
theorem rng_nodup (n : Int) : (rng n).Nodup := by
  unfold rng
  refine List.pairwise_map.mpr (List.Pairwise.imp (R := (· < ·)) (fun {a b} h => by omega) ?_)
  exact List.pairwise_lt_range
theorem rng_sorted (n : Int) : (rng n).Pairwise (· < ·) := by
  unfold rng
  refine List.pairwise_map.mpr (List.Pairwise.imp (R := (· < ·)) (fun {a b} h => by omega) ?_)
  exact List.pairwise_lt_range
/-! ### loops -/
theorem foldT_nil (B : σ → α → Option σ) (v : σ) : foldT B [] v = some v := rfl
theorem foldT_cons (B : σ → α → Option σ) (x : α) (xs : List α) (v : σ) : foldT B (x :: xs) v = (B v x).bind fun v' => foldT B xs v' := rfl
theorem forT_nil (B : σ → α → Option (Ctl σ ρ)) (v : σ) : forT B [] v = some (.nx v) := rfl
theorem forT_cons (B : σ → α → Option (Ctl σ ρ)) (x : α) (xs : List α) (v : σ) : forT B (x :: xs) v = (B v x).bind fun c => match c with | .nx v' => forT B xs v' | .rt r => some (.rt r) := rfl
theorem foldT_eq {B : σ → α → Option σ} {f : σ → α → σ} : ∀ {xs : List α} {v : σ}, (∀ x ∈ xs, ∀ v, B v x = some (f v x)) → foldT B xs v = some (xs.foldl f v)
  | [], _, _ => rfl
  | x :: xs, v, h => by
    rw [foldT_cons, h x List.mem_cons_self, Option.bind_some, foldT_eq fun y hy => h y (List.mem_cons_of_mem _ hy)]; rfl
/-- with an invariant -/
theorem foldT_inv {B : σ → α → Option σ} (P : List α → σ → Prop) : ∀ {xs pre : List α} {v : σ}, P pre v → (∀ pre x v, x ∈ xs → P pre v → ∃ v', B v x = some v' ∧ P (pre ++ [x]) v') → ∃ v', foldT B xs v = some v' ∧ P (pre ++ xs) v'
  | [], pre, v, h, _ => ⟨v, rfl, by rw [List.append_nil]; exact h⟩
  | x :: xs, pre, v, h, hb => by
    obtain ⟨v', e, h'⟩ := hb pre x v List.mem_cons_self h
    obtain ⟨v2, e2, h2⟩ := foldT_inv P (xs := xs) h' fun pre y w hy => hb pre y w (List.mem_cons_of_mem _ hy)
    exact ⟨v2, by rw [foldT_cons, e, Option.bind_some, e2], by rw [List.append_assoc] at h2; exact h2⟩
theorem foldT_pre {B : σ → α → Option σ} (P : List α → σ → Prop) {xs : List α} {v : σ} (h : P [] v) (hb : ∀ pre x v, x ∈ xs → P pre v → ∃ v', B v x = some v' ∧ P (pre ++ [x]) v') : ∃ v', foldT B xs v = some v' ∧ P xs v' :=
  foldT_inv P (pre := []) h hb
theorem foldT_keep {B : σ → α → Option σ} (P : σ → Prop) {xs : List α} {v : σ} (h : P v) (hb : ∀ x v, x ∈ xs → P v → ∃ v', B v x = some v' ∧ P v') : ∃ v', foldT B xs v = some v' ∧ P v' :=
  foldT_pre (fun _ => P) h fun _ x v hx hp => hb x v hx hp
theorem foldT_upto {B : σ → Int → Option σ} (P : Nat → σ → Prop) {n : Nat} {v : σ} (h : P 0 v) (hb : ∀ i v, i < n → P i v → ∃ v', B v (i : Int) = some v' ∧ P (i + 1) v') : ∃ v', foldT B (rng n) v = some v' ∧ P n v' := by
  have key : ∀ (k s : Nat) (v : σ), s + k = n → P s v → ∃ v', foldT B ((List.range' s k).map fun (i : Nat) => (i : Int)) v = some v' ∧ P n v' := by
    intro k
    induction k with
    | zero =>
      intro s v e h
      have : s = n := by omega
      exact ⟨v, rfl, this ▸ h⟩
    | succ k ih =>
      intro s v e h
      obtain ⟨v', e1, h1⟩ := hb s v (by omega) h
      obtain ⟨v2, e2, h2⟩ := ih (s + 1) v' (by omega) h1
      exact ⟨v2, by rw [List.range'_succ, List.map_cons, foldT_cons, e1, Option.bind_some, e2], h2⟩
  have := key n 0 v (by omega) h
  unfold rng
  rw [Int.toNat_natCast, List.range_eq_range']
  exact this
theorem forT_keep {B : σ → α → Option (Ctl σ ρ)} (P : σ → Prop) : ∀ {xs : List α} {v : σ}, P v → (∀ x v, x ∈ xs → P v → ∃ v', B v x = some (.nx v') ∧ P v') → ∃ v', forT B xs v = some (.nx v') ∧ P v'
  | [], v, h, _ => ⟨v, rfl, h⟩
  | x :: xs, v, h, hb => by
    obtain ⟨v', e, h'⟩ := hb x v List.mem_cons_self h
    obtain ⟨v2, e2, h2⟩ := forT_keep P (xs := xs) h' fun y w hy => hb y w (List.mem_cons_of_mem _ hy)
    exact ⟨v2, by rw [forT_cons, e, Option.bind_some]; exact e2, h2⟩
theorem forT_unit {B : Unit → α → Option (Ctl Unit ρ)} {xs : List α} (h : ∀ x ∈ xs, B () x = some (.nx ())) : forT B xs () = some (.nx ()) := by
  obtain ⟨v, e, _⟩ := forT_keep (fun _ => True) (xs := xs) (v := ()) (B := B) trivial fun x v hx _ => ⟨(), h x hx, trivial⟩
  exact e
/-- hands back r at the first bad one -/
theorem forT_any {B : Unit → α → Option (Ctl Unit ρ)} {bad : α → Bool} {r : ρ} : ∀ {xs : List α}, (∀ x ∈ xs, B () x = some (if bad x = true then .rt r else .nx ())) → forT B xs () = some (if xs.any bad = true then .rt r else .nx ())
  | [], _ => rfl
  | x :: xs, h => by
    rw [forT_cons, h x List.mem_cons_self, Option.bind_some, List.any_cons]
    cases q : bad x with
    | true => rfl
    | false => exact forT_any fun y hy => h y (List.mem_cons_of_mem _ hy)
theorem forT_find {B : Unit → α → Option (Ctl Unit ρ)} {f : α → Option ρ} : ∀ {xs : List α}, (∀ x ∈ xs, B () x = some (match f x with | some r => .rt r | none => .nx ())) → forT B xs () = some (match xs.findSome? f with | some r => .rt r | none => .nx ())
  | [], _ => rfl
  | x :: xs, h => by
    rw [forT_cons, h x List.mem_cons_self, Option.bind_some, List.findSome?_cons]
    cases q : f x with
    | some r => rfl
    | none => exact forT_find fun y hy => h y (List.mem_cons_of_mem _ hy)
theorem lcT_eq {P : α → Option Bool} {G : α → Option β} {p : α → Bool} {g : α → β} : ∀ {xs : List α}, (∀ x ∈ xs, P x = some (p x)) → (∀ x ∈ xs, p x = true → G x = some (g x)) → lcT P G xs = some ((xs.filter p).map g)
  | [], _, _ => rfl
  | x :: xs, h1, h2 => by
    have ih := lcT_eq (xs := xs) (fun y hy => h1 y (List.mem_cons_of_mem _ hy)) (fun y hy => h2 y (List.mem_cons_of_mem _ hy))
    show (P x).bind (fun b => if b = true then (G x).bind fun y => (lcT P G xs).bind fun ys => some (y :: ys) else lcT P G xs) = _
    rw [h1 x List.mem_cons_self, Option.bind_some, ih]
    cases q : p x with
    | true => rw [if_pos rfl, h2 x List.mem_cons_self q, List.filter_cons_of_pos q]; rfl
    | false => rw [if_neg Bool.false_ne_true, List.filter_cons_of_neg (by rw [q]; exact Bool.false_ne_true)]
theorem lcT_map {G : α → Option β} {g : α → β} {xs : List α} (h : ∀ x ∈ xs, G x = some (g x)) : lcT (fun _ => some true) G xs = some (xs.map g) := by
  rw [lcT_eq (p := fun _ => true) (g := g) (fun _ _ => rfl) (fun x hx _ => h x hx), List.filter_eq_self.mpr (fun _ _ => rfl)]
theorem lcT_each {G : α → Option β} {Q : β → Prop} : ∀ {xs : List α}, (∀ x ∈ xs, ∃ y, G x = some y ∧ Q y) → ∃ ys, lcT (fun _ => some true) G xs = some ys ∧ ys.length = xs.length ∧ ∀ y ∈ ys, Q y
  | [], _ => ⟨[], rfl, rfl, by simp⟩
  | x :: xs, h => by
    obtain ⟨y, e, q⟩ := h x List.mem_cons_self
    obtain ⟨ys, e2, l, q2⟩ := lcT_each (xs := xs) fun z hz => h z (List.mem_cons_of_mem _ hz)
    refine ⟨y :: ys, ?_, by rw [List.length_cons, List.length_cons, l], fun z hz => ?_⟩
    · show (some true).bind (fun b => if b = true then (G x).bind fun y => (lcT _ G xs).bind fun ys => some (y :: ys) else lcT _ G xs) = _
      rw [Option.bind_some, if_pos rfl, e, Option.bind_some, e2]; rfl
    · rcases List.mem_cons.mp hz with rfl | hz
      · exact q
      · exact q2 z hz
/-- a list grown by each item -/
theorem foldT_app {G : α → Option β} {g : α → β} : ∀ {xs : List α} {v0 : List β}, (∀ x ∈ xs, G x = some (g x)) → v0.length + xs.length ≤ 1000000 → foldT (fun v x => (G x).bind fun y => (appT v y).bind fun z => some z) xs v0 = some (v0 ++ xs.map g)
  | [], v0, _, _ => by rw [foldT_nil, List.map_nil, List.append_nil]
  | x :: xs, v0, h, l => by
    rw [List.length_cons] at l
    rw [foldT_cons, h x List.mem_cons_self, Option.bind_some, appT_ok (by omega), Option.bind_some, Option.bind_some, foldT_app (fun y hy => h y (List.mem_cons_of_mem _ hy)) (by rw [List.length_append, List.length_singleton]; omega), List.map_cons, List.append_assoc]; rfl
/-- a list grown by some items -/
theorem foldT_appIf {P : α → Option Bool} {G : α → Option β} {p : α → Bool} {g : α → β} : ∀ {xs : List α} {v0 : List β}, (∀ x ∈ xs, P x = some (p x)) → (∀ x ∈ xs, p x = true → G x = some (g x)) → v0.length + xs.length ≤ 1000000 → foldT (fun v x => ((P x).bind fun b => if b = true then ((G x).bind fun y => (appT v y).bind fun z => some z) else some v).bind fun w => some w) xs v0 = some (v0 ++ (xs.filter p).map g)
  | [], v0, _, _, _ => by rw [foldT_nil, List.filter_nil, List.map_nil, List.append_nil]
  | x :: xs, v0, h1, h2, l => by
    rw [List.length_cons] at l
    rw [foldT_cons, h1 x List.mem_cons_self, Option.bind_some]
    cases q : p x with
    | true =>
      rw [if_pos rfl, h2 x List.mem_cons_self q, Option.bind_some, appT_ok (by omega), Option.bind_some, Option.bind_some, Option.bind_some, foldT_appIf (fun y hy => h1 y (List.mem_cons_of_mem _ hy)) (fun y hy => h2 y (List.mem_cons_of_mem _ hy)) (by rw [List.length_append, List.length_singleton]; omega), List.filter_cons_of_pos q, List.map_cons, List.append_assoc]; rfl
    | false =>
      rw [if_neg Bool.false_ne_true, Option.bind_some, Option.bind_some, foldT_appIf (fun y hy => h1 y (List.mem_cons_of_mem _ hy)) (fun y hy => h2 y (List.mem_cons_of_mem _ hy)) (by omega), List.filter_cons_of_neg (by rw [q]; exact Bool.false_ne_true)]
/-- .. the item itself -/
theorem foldT_appIf1 {P : α → Option Bool} {p : α → Bool} {xs v0 : List α} (h1 : ∀ x ∈ xs, P x = some (p x)) (l : v0.length + xs.length ≤ 1000000) : foldT (fun v x => ((P x).bind fun b => if b = true then ((appT v x).bind fun z => some z) else some v).bind fun w => some w) xs v0 = some (v0 ++ xs.filter p) := by
  have := foldT_appIf (P := P) (G := fun x => some x) (p := p) (g := fun x => x) h1 (fun _ _ _ => rfl) l
  rw [List.map_id'] at this
  exact this
/-! ### items -/
theorem atI_ok {xs : List α} {i : Int} (h0 : 0 ≤ i) (h1 : i < xs.length) : ∃ x, atI xs i = some x ∧ x ∈ xs ∧ xs[i.toNat]? = some x := by
  have e := atI_some h0 h1
  have l : i.toNat < xs.length := by omega
  rw [List.getElem?_eq_getElem l] at e
  exact ⟨_, e, List.getElem_mem l, List.getElem?_eq_getElem l⟩
theorem enumT_get (xs : List α) (i : Nat) : (enumT xs)[i]? = (xs[i]?).map fun x => ((i : Int), x) := by unfold enumT; rw [List.getElem?_mapIdx]
theorem mem_enumT {xs : List α} {p : Int × α} (h : p ∈ enumT xs) : ∃ i : Nat, p.1 = (i : Int) ∧ xs[i]? = some p.2 := by
  obtain ⟨i, hi⟩ := List.getElem?_of_mem h
  rw [enumT_get] at hi
  cases q : xs[i]? with
  | none => rw [q] at hi; cases hi
  | some x => rw [q] at hi; cases hi; exact ⟨i, rfl, q⟩
theorem enumT_len (xs : List α) : (enumT xs).length = xs.length := by unfold enumT; simp
/-- a comprehension over enumerate as one over the range -/
theorem enumT_eq (xs : List α) : enumT xs = (List.range xs.length).filterMap fun (i : Nat) => (xs[i]?).map fun x => ((i : Int), x) := by
  have : enumT xs = (List.range xs.length).pmap (fun (i : Nat) (h : i < xs.length) => ((i : Int), xs[i]'h)) (fun i hi => List.mem_range.mp hi) := by
    apply List.ext_getElem?
    intro i
    rw [enumT_get]
    by_cases h : i < xs.length
    · simp [h]
    · simp [h]
  rw [this]
  have key : ∀ (l : List Nat) (hl : ∀ i ∈ l, i < xs.length), l.pmap (fun (i : Nat) (h : i < xs.length) => ((i : Int), xs[i]'h)) hl = l.filterMap fun (i : Nat) => (xs[i]?).map fun x => ((i : Int), x) := by
    intro l
    induction l with
    | nil => intro _; rfl
    | cons a l ih =>
      intro hl
      have ha := hl a List.mem_cons_self
      simp [List.getElem?_eq_getElem ha, ih fun i hi => hl i (List.mem_cons_of_mem _ hi)]
  exact key _ _
end
/-! ### signs -/
theorem sg1_inj {a b : Nat} : sg1 a = sg1 b ↔ a = b := ⟨fun h => by
  have := congrArg (fun s : Str => s.cps.toList) h
  simpa [sg1] using this, fun h => by rw [h]⟩
@[simp] theorem sg1_cps (a : Nat) : (sg1 a).cps.toList = [a] := rfl
@[simp] theorem sg1_len (a : Nat) : (sg1 a).length = 1 := rfl
theorem str_ext {a b : Str} (h : a.cps.toList = b.cps.toList) : a = b := by
  obtain ⟨x⟩ := a; obtain ⟨y⟩ := b
  congr 1
  exact Array.ext' h
@[simp] theorem cps_append (a b : Str) : (a ++ b).cps.toList = a.cps.toList ++ b.cps.toList := by
  show (a.cps ++ b.cps).toList = _
  simp
@[simp] theorem cps_cut (s : Str) (lo hi : Option Int) : (cutS' s lo hi).cps.toList = cutD s.cps.toList lo hi := rfl
theorem sgs_len (s : Str) : (sgs s).length = s.length := by unfold sgs; rw [List.length_map, str_length]
theorem sgs_get (s : Str) (i : Nat) : (sgs s)[i]? = (s.cps.toList[i]?).map sg1 := by unfold sgs; rw [List.getElem?_map]
theorem mem_sgs {s x : Str} (h : x ∈ sgs s) : ∃ c ∈ s.cps.toList, x = sg1 c := by
  obtain ⟨c, hc, e⟩ := List.mem_map.mp h
  exact ⟨c, hc, e.symm⟩
theorem atS_ok {s : Str} {i : Int} (h0 : 0 ≤ i) (h1 : i < s.length) : ∃ c, atS s i = some (sg1 c) ∧ c ∈ s.cps.toList ∧ s.cps.toList[i.toNat]? = some c := by
  obtain ⟨c, e, hm, hg⟩ := atI_ok (xs := s.cps.toList) h0 (by rw [← str_length]; exact h1)
  exact ⟨c, by unfold atS; rw [e]; rfl, hm, hg⟩
theorem atS_nat {s : Str} {i c : Nat} (h : s.cps.toList[i]? = some c) : atS s (i : Int) = some (sg1 c) := by
  unfold atS; rw [atI_nat h]; rfl
theorem strIn_sg (c : Nat) (x : Str) : strIn (sg1 c) x = decide (c ∈ x.cps.toList) := strIn_one c x
theorem sg1_eq (c : Nat) (s : Str) : decide (sg1 c = s) = decide (s.cps.toList = [c]) := by
  by_cases h : s.cps.toList = [c]
  · rw [decide_eq_true h, decide_eq_true]; exact str_ext (by rw [h]; rfl)
  · rw [decide_eq_false h, decide_eq_false]; intro z; exact h (by rw [← z]; rfl)
/-! letters -/
def isLo (c : Nat) : Prop := 97 ≤ c ∧ c < 123
def isUp (c : Nat) : Prop := 65 ≤ c ∧ c < 91
instance (c : Nat) : Decidable (isLo c) := by unfold isLo; infer_instance
instance (c : Nat) : Decidable (isUp c) := by unfold isUp; infer_instance
theorem upp_all : ((List.range' 97 26).all fun c => decide (uppT (sg1 c) = some (sg1 (c - 32)))) = true := by decide +kernel
theorem low_all : ((List.range' 97 26).all fun c => decide (lowT (sg1 c) = some (sg1 c))) = true := by decide +kernel
theorem low_cap : ((List.range' 65 26).all fun c => decide (lowT (sg1 c) = some (sg1 (c + 32)))) = true := by decide +kernel
theorem upp_lo {c : Nat} (h : isLo c) : uppT (sg1 c) = some (sg1 (c - 32)) := by
  have := List.all_eq_true.mp upp_all c (by rw [List.mem_range'_1]; exact ⟨h.1, by have := h.2; omega⟩)
  simpa using this
theorem low_lo {c : Nat} (h : isLo c) : lowT (sg1 c) = some (sg1 c) := by
  have := List.all_eq_true.mp low_all c (by rw [List.mem_range'_1]; exact ⟨h.1, by have := h.2; omega⟩)
  simpa using this
theorem low_up {c : Nat} (h : isUp c) : lowT (sg1 c) = some (sg1 (c + 32)) := by
  have := List.all_eq_true.mp low_cap c (by rw [List.mem_range'_1]; exact ⟨h.1, by have := h.2; omega⟩)
  simpa using this
theorem abcL : ("abcdefghijklmnopqrstuvwxyz" : Str).cps.toList = List.range' 97 26 := by decide +kernel
theorem abc_len : ("abcdefghijklmnopqrstuvwxyz" : Str).length = 26 := by decide +kernel
theorem mem_abc {c : Nat} : c ∈ ("abcdefghijklmnopqrstuvwxyz" : Str).cps.toList ↔ isLo c := by
  rw [abcL, List.mem_range'_1]; unfold isLo; omega
theorem abc_at (i : Int) : ∃ c, atS "abcdefghijklmnopqrstuvwxyz" (i % 26) = some (sg1 c) ∧ isLo c ∧ (c : Int) = 97 + i % 26 := by
  have h0 : 0 ≤ i % 26 := Int.emod_nonneg _ (by decide)
  have h1 : i % 26 < 26 := Int.emod_lt_of_pos _ (by decide)
  obtain ⟨c, e, _, hg⟩ := atS_ok (s := "abcdefghijklmnopqrstuvwxyz") h0 (by rw [abc_len]; omega)
  rw [abcL, List.getElem?_range' (by omega)] at hg
  have := Option.some.inj hg
  refine ⟨c, e, ?_, by omega⟩
  unfold isLo; omega
/-! ### join -/
theorem joinT_ok {ys : List Str} (h : (ys.map (·.length)).sum ≤ 1000000) : ∃ z, joinT "" ys = some z ∧ z.cps.toList = (ys.map (·.cps.toList)).flatten := by
  refine ⟨_, if_pos ⟨?_, le_line (Nat.le_trans (join_len "" ys) ?_)⟩, join_empty ys⟩
  · show _ + ys.length * 0 ≤ _; omega
  · show _ + ys.length * 0 ≤ _; omega
theorem joinT_sg {cs : List Nat} (h : cs.length ≤ 1000000) : ∃ z, joinT "" (cs.map sg1) = some z ∧ z.cps.toList = cs := by
  have e1 : ((cs.map sg1).map (·.length)) = List.replicate cs.length 1 := by
    rw [List.map_map]
    induction cs with
    | nil => rfl
    | cons c cs ih => rw [List.map_cons, List.length_cons, List.replicate_succ, ih (by rw [List.length_cons] at h; omega)]; rfl
  obtain ⟨z, e, hz⟩ := joinT_ok (ys := cs.map sg1) (by rw [e1]; simp; exact h)
  refine ⟨z, e, ?_⟩
  rw [hz, List.map_map]
  clear hz e e1 h
  induction cs with
  | nil => rfl
  | cons c cs ih => rw [List.map_cons, List.flatten_cons, ih]; rfl
/-! ### of data -/
theorem isiD_of {d : D} {a n : String} {b : Bool} (h1 : tyName d = some a) (h2 : kitB a n = some b ∧ isiB a n = b) : isiD d n = some b := by
  unfold isiD; rw [isiK h1 h2]; rfl
@[simp] theorem isiD_int_int (i : Int) : isiD (.int i) "int" = some true := isiD_of (a := "int") rfl (by decide +kernel)
@[simp] theorem isiD_int_bool (i : Int) : isiD (.int i) "bool" = some false := isiD_of (a := "int") rfl (by decide +kernel)
@[simp] theorem isiD_bl_int (i : Bool) : isiD (.bl i) "int" = some true := isiD_of (a := "bool") rfl (by decide +kernel)
@[simp] theorem isiD_bl_bool (i : Bool) : isiD (.bl i) "bool" = some true := isiD_of (a := "bool") rfl (by decide +kernel)
@[simp] theorem isiD_str_int (i : Str) : isiD (.str i) "int" = some false := isiD_of (a := "str") rfl (by decide +kernel)
@[simp] theorem isiD_str_str (i : Str) : isiD (.str i) "str" = some true := isiD_of (a := "str") rfl (by decide +kernel)
@[simp] theorem isiD_non_int : isiD .non "int" = some false := isiD_of (a := "NoneType") rfl (by decide +kernel)
@[simp] theorem isiD_non_str : isiD .non "str" = some false := isiD_of (a := "NoneType") rfl (by decide +kernel)
@[simp] theorem isiD_lst_int (xs : List D) : isiD (.lst xs) "int" = some false := isiD_of (a := "list") rfl (by decide +kernel)
@[simp] theorem isiD_lst_str (xs : List D) : isiD (.lst xs) "str" = some false := isiD_of (a := "list") rfl (by decide +kernel)
@[simp] theorem isiD_lst_list (xs : List D) : isiD (.lst xs) "list" = some true := isiD_of (a := "list") rfl (by decide +kernel)
@[simp] theorem isiD_lst_tuple (xs : List D) : isiD (.lst xs) "tuple" = some false := isiD_of (a := "list") rfl (by decide +kernel)
@[simp] theorem isiD_tup_tuple (xs : List D) : isiD (.tup xs) "tuple" = some true := isiD_of (a := "tuple") rfl (by decide +kernel)
@[simp] theorem isiD_tup_list (xs : List D) : isiD (.tup xs) "list" = some false := isiD_of (a := "tuple") rfl (by decide +kernel)
@[simp] theorem isiD_tup_int (xs : List D) : isiD (.tup xs) "int" = some false := isiD_of (a := "tuple") rfl (by decide +kernel)
@[simp] theorem isiD_tup_str (xs : List D) : isiD (.tup xs) "str" = some false := isiD_of (a := "tuple") rfl (by decide +kernel)
@[simp] theorem isiD_eL_list {α : Type} {e : α → D} (xs : List α) : isiD (eL e xs) "list" = some true := isiD_lst_list _
theorem enumT_snoc {α : Type} (xs : List α) (x : α) : enumT (xs ++ [x]) = enumT xs ++ [((xs.length : Int), x)] := by unfold enumT; rw [List.mapIdx_append]; simp
theorem rng_succ (n : Nat) : rng ((n : Int) + 1) = rng n ++ [(n : Int)] := by
  unfold rng
  have : ((n : Int) + 1).toNat = n + 1 := by omega
  rw [this, List.range_succ, List.map_append]; simp
theorem snoc_ind' {α : Type} {P : List α → Prop} (h0 : P []) (h1 : ∀ xs x, P xs → P (xs ++ [x])) (xs : List α) : P xs := by
  have : ∀ n, ∀ ys : List α, ys.length = n → P ys := by
    intro n
    induction n with
    | zero => intro ys h; rw [List.length_eq_zero_iff.mp h]; exact h0
    | succ n ih =>
      intro ys h
      have ne : ys ≠ [] := fun e => by rw [e] at h; cases h
      have e := List.dropLast_concat_getLast ne
      rw [← e]
      exact h1 _ _ (ih _ (by rw [List.length_dropLast, h]; rfl))
  exact this _ xs rfl
/-- the places of the good ones -/
theorem enum_filter {α : Type} (q : α → Bool) (xs : List α) : ((enumT xs).filter fun p => q p.2).map (·.1) = (rng xs.length).filter fun i => (xs[i.toNat]?).any q := by
  refine snoc_ind' (P := fun xs : List α => ((enumT xs).filter fun p => q p.2).map (·.1) = (rng xs.length).filter fun i => (xs[i.toNat]?).any q) rfl (fun xs x ih => ?_) xs
  rw [enumT_snoc, List.filter_append, List.map_append, ih, List.length_append, List.length_singleton]
  have e : ((xs.length + 1 : Nat) : Int) = (xs.length : Int) + 1 := by omega
  rw [e, rng_succ, List.filter_append]
  congr 1
  · refine List.filter_congr fun i hi => ?_
    have := mem_rng.mp hi
    rw [List.getElem?_append_left (by omega)]
  · have g : (xs ++ [x])[((xs.length : Int)).toNat]? = some x := by simp
    cases c : q x <;> simp [c, g]
theorem bindC_for {α β σ ρ : Type} {B : σ → α → Option (Ctl σ ρ)} (P : σ → Prop) {xs : List α} {v0 : σ} {K : σ → Option β} {R : ρ → β} {r : β} (h0 : P v0) (hb : ∀ x v, x ∈ xs → P v → ∃ v', B v x = some (.nx v') ∧ P v') (hk : ∀ v, P v → K v = some r) : bindC (forT B xs v0) K R = some r := by
  obtain ⟨v, e, h⟩ := forT_keep P h0 hb
  rw [e, bindC_nx]; exact hk v h
theorem bind_fold {α β σ : Type} {B : σ → α → Option σ} (P : List α → σ → Prop) {xs : List α} {v0 : σ} {K : σ → Option β} {r : β} (h0 : P [] v0) (hb : ∀ pre x v, x ∈ xs → P pre v → ∃ v', B v x = some v' ∧ P (pre ++ [x]) v') (hk : ∀ v, P xs v → K v = some r) : (foldT B xs v0).bind K = some r := by
  obtain ⟨v, e, h⟩ := foldT_pre P h0 hb
  rw [e, Option.bind_some]; exact hk v h
theorem length_sub {α : Type} [DecidableEq α] : ∀ {l m : List α}, l.Nodup → (∀ x ∈ l, x ∈ m) → l.length ≤ m.length
  | [], _, _, _ => Nat.zero_le _
  | a :: l, m, nd, h => by
    have ha := h a List.mem_cons_self
    rw [List.nodup_cons] at nd
    have := length_sub (m := m.erase a) nd.2 fun x hx => (List.mem_erase_of_ne (fun e => nd.1 (by rw [← e]; exact hx))).mpr (h x (List.mem_cons_of_mem _ hx))
    have l1 := List.length_erase_of_mem ha
    have : 0 < m.length := List.length_pos_of_mem ha
    rw [List.length_cons]
    omega
theorem cutD_nat_to {α : Type} (xs : List α) {k : Int} (h : 0 ≤ k) : cutD xs none (some k) = xs.take k.toNat := by
  have := cutD_to xs k.toNat
  rwa [Int.toNat_of_nonneg h] at this
theorem cutD_nat_from {α : Type} (xs : List α) {k : Int} (h : 0 ≤ k) : cutD xs (some k) none = xs.drop k.toNat := by
  have := cutD_from xs k.toNat
  rwa [Int.toNat_of_nonneg h] at this
end Dl
/-! L: count; exceptions. -/
namespace Dl
open PySem L2
def cntT {α : Type} [DecidableEq α] (xs : List α) (x : α) : Int := ((xs.countP fun y => decide (y = x) : Nat) : Int)
theorem opCnt_l {α : Type} [DecidableEq α] {e : α → D} {n : Nat} (h : Enc n e) (hn : n ≤ 59 := by decide) (xs : List α) (x : α) : opCnt (eL e xs) (e x) = some (.int (cntT xs x)) := by
  show (if cmpOk (.lst (xs.map e)) (e x) then some (D.int (((xs.map e).countP fun z => D.eqv z (e x) : Nat) : Int)) else none) = _
  rw [if_pos (cmpOk_of (n := n + 1) (fit_lst fun d hd => by obtain ⟨a, _, rfl⟩ := List.mem_map.mp hd; exact h.fit a) ⟨(h.fit x).1, Nat.le_succ_of_le (h.fit x).2⟩ (by omega)), List.countP_map]
  unfold cntT
  congr 3
  refine List.countP_congr fun a _ => ?_
  show (D.eqv (e a) (e x) = true) ↔ _
  rw [h.inj]
theorem cntM {α : Type} [DecidableEq α] {e : α → D} {n : Nat} (h : Enc n e) {fo fe : Ev} {δ : Env} {X : Option (List α)} {Y : Option α} (a : EvM fo δ (eL e) X) (b : EvM fe δ e Y) (hn : n ≤ 59 := by decide) : EvM (vCnt fo fe) δ D.int (X.bind fun xs => Y.bind fun y => some (cntT xs y)) := fun r q => by
  obtain ⟨xs, q1, q2⟩ := bind_eq q
  obtain ⟨y, q3, q4⟩ := bind_eq q2
  cases q4
  have e0 : vCnt fo fe δ = (fo δ).bind fun l => (fe δ).bind fun y => opCnt l y := rfl
  rw [e0, a xs q1, Option.bind_some, b y q3, Option.bind_some, opCnt_l h hn]
theorem cntP {α : Type} [DecidableEq α] {e : α → D} {n : Nat} (h : Enc n e) {fo fe : Ev} {δ : Env} {xs : List α} {y : α} (a : EvP fo δ (eL e) xs) (b : EvP fe δ e y) (hn : n ≤ 59 := by decide) : EvP (vCnt fo fe) δ D.int (cntT xs y) := by
  have e0 : vCnt fo fe δ = (fo δ).bind fun l => (fe δ).bind fun y => opCnt l y := rfl
  show vCnt fo fe δ = _
  rw [e0, a, Option.bind_some, b, Option.bind_some, opCnt_l h hn]
end Dl
/-! L: what may be raised. -/
namespace Dl
open PySem L2
inductive Rt (ρ : Type) where
  | ok (r : ρ) | ex (c : Str)
def gR {ρ : Type} (e : ρ → D) : Rt ρ → Res
  | .ok r => .ok (e r)
  | .ex c => .ex c []
def gX {ρ : Type} (e : ρ → D) : Rt ρ → Out
  | .ok r => .rt (e r)
  | .ex c => .ex c []
def outG {σ ρ : Type} (E : σ → Env) (G : ρ → Out) : Ctl σ ρ → Out
  | .nx v => .nx (E v)
  | .rt r => G r
/-- goes on with a value, or an exception is let on -/
def bindX {α β : Type} (T : Option (Rt α)) (K : α → Option β) (R : Str → β) : Option β := T.bind fun r => match r with | .ok x => K x | .ex c => some (R c)
@[simp] theorem bindX_none {α β : Type} (K : α → Option β) (R : Str → β) : bindX none K R = none := rfl
@[simp] theorem bindX_ok {α β : Type} (x : α) (K : α → Option β) (R : Str → β) : bindX (some (.ok x)) K R = K x := rfl
@[simp] theorem bindX_ex {α β : Type} (c : Str) (K : α → Option β) (R : Str → β) : bindX (some (.ex c)) K R = some (R c) := rfl
def okT {α : Type} : Rt α → Option α
  | .ok x => some x
  | .ex _ => none
/-- one that never goes on -/
def Stops {ρ : Type} (G : ρ → Out) : Prop := ∀ r δ, G r ≠ .nx δ
theorem gX_stops {ρ : Type} (e : ρ → D) : Stops (gX e) := fun r δ h => by cases r <;> cases h
section
variable {α β γ ρ σ : Type} {f : Ev} {x : α} {T : Option α} {δ : Env} {e : α → D} {s s' : Sv} {g : β → Out} {fx : Xv} {TX : Option (Rt α)} {G : ρ → Out}
def XvM (f : Xv) (δ : Env) (e : α → D) (T : Option (Rt α)) : Prop := ∀ r, T = some r → f δ = some (gR e r)
/-- where it is known to raise nothing -/
theorem XvM.ok (h : XvM fx δ e TX) : EvM (okV fx) δ e (TX.bind okT) := fun r q => by
  obtain ⟨y, q1, q2⟩ := bind_eq q
  cases y with
  | ok z =>
    cases q2
    show (fx δ).bind _ = _
    rw [h _ q1]; rfl
  | ex c => cases q2
/-- a call -/
def ArX (f : Env → Option (List D)) (δ : Env) (k : List D → Option Res) (e : α → D) (T : Option (Rt α)) : Prop := ∀ x, T = some x → (f δ).bind k = some (gR e x)
theorem arXnil {k : List D → Option Res} (h : ∀ r, TX = some r → k [] = some (gR e r)) : ArX aNil δ k e TX := fun r q => h r q
theorem arXconsP {α' : Type} {e1 : α' → D} {x1 : α'} {f1 : Ev} {fs : Env → Option (List D)} {k : List D → Option Res} (a : EvP f1 δ e1 x1) (h : ArX fs δ (fun ds => k (e1 x1 :: ds)) e TX) : ArX (aCons f1 fs) δ k e TX := fun r q => by
  have h' := h r q
  unfold EvP at a
  rw [aCons_def, a, Option.bind_some, ← h']
  cases fs δ <;> rfl
theorem arXconsM {α' : Type} {e1 : α' → D} {T1 : Option α'} {f1 : Ev} {fs : Env → Option (List D)} {k : List D → Option Res} {TK : α' → Option (Rt α)} (a : EvM f1 δ e1 T1) (h : ∀ z, ArX fs δ (fun ds => k (e1 z :: ds)) e (TK z)) : ArX (aCons f1 fs) δ k e (T1.bind TK) := fun r q => by
  obtain ⟨z, q1, q2⟩ := bind_eq q
  exact arXconsP (show EvP f1 δ e1 z from a z q1) (h z) r q2
theorem callX {k : List D → Option Res} {fs : Env → Option (List D)} (h : ArX fs δ k e TX) : XvM (xC1 k fs) δ e TX := fun r q => h r q
/-! statements of a def that may raise -/
theorem stRetX (h : EvP f δ e x) : St (sRet f) δ (gX e) (some (.ok x)) := fun r q => by
  cases q
  unfold EvP at h
  rw [sRet_def, h]; rfl
theorem stRetXM (h : EvM f δ e T) : St (sRet f) δ (gX e) (T.bind fun x => some (.ok x)) := fun r q => by
  obtain ⟨y, q1, q2⟩ := bind_eq q
  cases q2
  rw [sRet_def, h y q1]; rfl
theorem stRaiseX {c : Str} : St (sRaise c) δ (gX e) (some (.ex c)) := fun r q => by cases q; rfl
theorem stUpG {E : σ → Env} {T : Option ρ} (h : St s δ G T) : St s δ (outG E G) (T.bind fun r => some (.rt r)) := fun r q => by
  obtain ⟨y, q1, q2⟩ := bind_eq q
  cases q2
  exact h y q1
theorem stRetNX : St sRetN δ (gX eU) (some (.ok ())) := fun r q => by cases q; rfl
theorem stNextG {E : σ → Env} (v : σ) (hE : δ = E v := by rfl) : St sNext δ (outG E G) (some (.nx v)) := fun r q => by cases q; rw [hE]; rfl
theorem nnX {f : Xv} (h : NoNx s) : NoNx (sX f s) := fun δ δ' q => by
  obtain ⟨r, e1, e2⟩ := bind_eq q
  cases r with
  | ok d => exact h _ _ e2
  | ex c fs => cases e2
theorem nnRaise {c : Str} : NoNx (sRaise c) := fun δ δ' h => by cases h
/-- return f(..), f may raise -/
theorem stRetFX (h : XvM fx δ e TX) : St (sX fx (sRet (okV fx))) δ (gX e) TX := fun r q => by
  have := h r q
  show (fx δ).bind _ = _
  rw [this, Option.bind_some]
  cases r with
  | ok y =>
    show sRet (okV fx) δ = _
    have : okV fx δ = some (e y) := by show (fx δ).bind _ = _; rw [this]; rfl
    rw [sRet_def, this]; rfl
  | ex c => rfl
/-- x = f(..) -/
theorem stSetFX {i : Nat} {K : α → Option β} {R : Str → β} (h : XvM fx δ e TX) (k : ∀ y, St s' (δ.set i (some (e y))) g (K y)) (hR : ∀ c, g (R c) = .ex c [] := by intro _; rfl) : St (sSeq (sX fx (sSet i (okV fx))) s') δ g (bindX TX K R) := fun r q => by
  obtain ⟨z, q1, q2⟩ := bind_eq q
  have h1 := h z q1
  rw [sSeq_def]
  cases z with
  | ok y =>
    have e1 : sX fx (sSet i (okV fx)) δ = some (.nx (δ.set i (some (e y)))) := by
      show (fx δ).bind _ = _
      rw [h1, Option.bind_some]
      show (okV fx δ).map _ = _
      have : okV fx δ = some (e y) := by show (fx δ).bind _ = _; rw [h1]; rfl
      rw [this]; rfl
    rw [e1]
    exact k y r q2
  | ex c =>
    have e1 : sX fx (sSet i (okV fx)) δ = some (.ex c []) := by
      show (fx δ).bind _ = _
      rw [h1]; rfl
    rw [e1]
    cases q2
    rw [hR]; rfl
/-- f(..) alone -/
theorem stExprFX {K : α → Option β} {R : Str → β} (h : XvM fx δ e TX) (k : ∀ y, St s' δ g (K y)) (hR : ∀ c, g (R c) = .ex c [] := by intro _; rfl) : St (sSeq (sX fx (sExpr (okV fx))) s') δ g (bindX TX K R) := fun r q => by
  obtain ⟨z, q1, q2⟩ := bind_eq q
  have h1 := h z q1
  rw [sSeq_def]
  cases z with
  | ok y =>
    have e1 : sX fx (sExpr (okV fx)) δ = some (.nx δ) := by
      show (fx δ).bind _ = _
      rw [h1, Option.bind_some]
      show (okV fx δ).map _ = _
      have : okV fx δ = some (e y) := by show (fx δ).bind _ = _; rw [h1]; rfl
      rw [this]; rfl
    rw [e1]
    exact k y r q2
  | ex c =>
    have e1 : sX fx (sExpr (okV fx)) δ = some (.ex c []) := by
      show (fx δ).bind _ = _
      rw [h1]; rfl
    rw [e1]
    cases q2
    rw [hR]; rfl
theorem stSeqG {E : σ → Env} {T : Option (Ctl σ ρ)} {K : σ → Option β} {Rr : ρ → β} (hG : Stops G) (a : St s δ (outG E G) T) (h : ∀ v, St s' (E v) g (K v)) (hR : ∀ r, g (Rr r) = G r := by intro _; rfl) : St (sSeq s s') δ g (bindC T K Rr) := fun r q => by
  obtain ⟨c, q1, q2⟩ := bind_eq q
  cases c with
  | nx v =>
    rw [sSeq_def, a _ q1]
    exact h v r q2
  | rt y =>
    cases q2
    rw [sSeq_def, a _ q1, hR]
    show (some (G y)).bind _ = _
    rw [Option.bind_some]
    cases z : G y with
    | nx δ' => exact (hG _ _ z).elim
    | rt d => rfl
    | ex c fs => rfl
variable {it : Env → Option (List D)} {set : Hv} {body : Sv} {xs : List α} {X : Option (List α)}
theorem forG_ok (hG : Stops G) {E : σ → Env} {E' : σ → α → Env} {Bd : σ → α → Option (Ctl σ ρ)} (hs : ∀ v x, set (e x) (E v) = some (E' v x)) (hb : ∀ v x, St body (E' v x) (outG E G) (Bd v x)) : ∀ (xs : List α) (v : σ) (r : Ctl σ ρ), forT Bd xs v = some r → forD set body (xs.map e) (E v) = some (outG E G r)
  | [], v, r, h => by cases h; rfl
  | x :: xs, v, r, h => by
    obtain ⟨c, q1, q2⟩ := bind_eq h
    show ((set (e x) (E v)).bind fun δ1 => (body δ1).bind fun o => match o with | .nx δ2 => forD set body (xs.map e) δ2 | o => some o) = _
    rw [hs, Option.bind_some, hb v x c q1, Option.bind_some]
    cases c with
    | nx v' => exact forG_ok hG hs hb xs v' r q2
    | rt y =>
      cases q2
      show (match G y with | .nx δ2 => forD set body (xs.map e) δ2 | o => some o) = some (G y)
      cases z : G y with
      | nx δ' => exact (hG _ _ z).elim
      | rt d => rfl
      | ex c fs => rfl
theorem stForG (hG : Stops G) {E : σ → Env} {E' : σ → α → Env} {Bd : σ → α → Option (Ctl σ ρ)} (v0 : σ) (hi : ItP it δ e xs) (h0 : E v0 = δ) (hs : ∀ v x, set (e x) (E v) = some (E' v x)) (hb : ∀ v x, St body (E' v x) (outG E G) (Bd v x)) : St (sFor it set body) δ (outG E G) (forT Bd xs v0) := fun r q => by
  unfold ItP at hi
  rw [sFor_def, hi, Option.bind_some, ← h0]
  exact forG_ok hG hs hb xs v0 r q
theorem stForGM (hG : Stops G) {E : σ → Env} {E' : σ → α → Env} {Bd : σ → α → Option (Ctl σ ρ)} (v0 : σ) (hi : ItM it δ e X) (h0 : E v0 = δ) (hs : ∀ v x, set (e x) (E v) = some (E' v x)) (hb : ∀ v x, St body (E' v x) (outG E G) (Bd v x)) : St (sFor it set body) δ (outG E G) (X.bind fun xs => forT Bd xs v0) := fun r q => by
  obtain ⟨xs, q1, q2⟩ := bind_eq q
  exact stForG hG v0 (hi xs q1) h0 hs hb r q2
/-! try -/
def tryC {σ ρ : Type} (T : Option (Ctl σ (Rt ρ))) (S : Str → Option (Ctl σ ρ)) : Option (Ctl σ ρ) := T.bind fun c => match c with
  | .nx v => some (.nx v)
  | .rt (.ok r) => some (.rt r)
  | .rt (.ex c) => S c
theorem stTry {er : ρ → D} {i : Nat} {ct : Str → Option Bool} {ws : List Nat} {sb : Sv} {ss : Addr → Str → Sv} {E : σ → Env} {E' : Addr → Str → σ → Env} {TB : Option (Ctl σ (Rt ρ))} {S : Str → Option (Ctl σ ρ)} (hb : St sb δ (outG E (gX er)) TB)
    (hs : ∀ a c, St (ss a c) ((wipeE δ ws).set i (some (.exc a c))) (outF (E' a c) er) (S c)) (hE : ∀ a c v, (E' a c v).set i none = E v) : St (sTryAs i ct ws sb ss) δ (outF E er) (tryC TB fun c => if ct c = some true then S c else none) := fun r q => by
  obtain ⟨cc, q1, q2⟩ := bind_eq q
  have h1 := hb cc q1
  show (sb δ).bind _ = _
  rw [h1, Option.bind_some]
  cases cc with
  | nx v => cases q2; rfl
  | rt y =>
    cases y with
    | ok y => cases q2; rfl
    | ex c =>
      have q2 : (if ct c = some true then S c else none) = some r := q2
      split at q2
      · rename_i hc
        show (if ([] : List (Str × D)).isEmpty = true then (ct c).bind fun b => if b = true then (allA fun a => (ss a c ((wipeE δ ws).set i (some (.exc a c)))).bind (goneO i)) else some (.ex c []) else none) = _
        rw [if_pos (show ([] : List (Str × D)).isEmpty = true from rfl), hc, Option.bind_some, if_pos rfl]
        cases r with
        | nx v =>
          exact allA_of fun a => by
            rw [hs a c _ q2, Option.bind_some]
            show some (Out.nx ((E' a c v).set i none)) = _
            rw [hE]; rfl
        | rt y =>
          exact allA_of fun a => by
            rw [hs a c _ q2, Option.bind_some]; rfl
      · cases q2
end
end Dl
namespace Dl
open PySem L2
abbrev eExc (a : Addr) (c : Str) : D := .exc a c
section
variable {α β γ ρ σ : Type} {f : Ev} {x : α} {T : Option α} {δ : Env} {e : α → D} {s s' : Sv} {g : β → Out}
theorem stRetG {E : σ → Env} (h : EvP f δ e x) : St (sRet f) δ (outG E (gX e)) (some (.rt (.ok x))) := fun r q => by
  cases q
  unfold EvP at h
  rw [sRet_def, h]; rfl
theorem stRetGM {E : σ → Env} (h : EvM f δ e T) : St (sRet f) δ (outG E (gX e)) (T.bind fun x => some (.rt (.ok x))) := fun r q => by
  obtain ⟨y, q1, q2⟩ := bind_eq q
  cases q2
  rw [sRet_def, h y q1]; rfl
theorem stRaiseG {E : σ → Env} {c : Str} : St (sRaise c) δ (outG E (gX e)) (some (.rt (.ex c))) := fun r q => by cases q; rfl
theorem stRetFG {E : σ → Env} {fx : Xv} {TX : Option (Rt α)} (h : XvM fx δ e TX) : St (sX fx (sRet (okV fx))) δ (outG E (gX e)) (TX.bind fun r => some (.rt r)) := stUpG (stRetFX h)
theorem defX_of {n np : Nat} {rm : Mode} {s : Sv} {ds : List D} {TX : Option (Rt α)} (hl : ds.length = np) (h : St s (ds.map some ++ List.replicate (n - np) none) (gX e) TX) : ∀ r, TX = some r → denX n np rm s ds = some (gR e r) := fun r q => by
  unfold denX
  rw [if_pos hl, h r q]
  cases r <;> rfl
theorem isE_cls (a : Addr) (c : Str) {n : Str} (h : n ∈ excN) : opIsE a c [eExc a c, .cls n] = some (D.bl (subX c n)) := if_pos ⟨rfl, rfl, h⟩
theorem isE_val (a : Addr) (c : Str) : opIsE a c [eExc a c, .ty "ValueError"] = some (D.bl true) := if_pos ⟨rfl, rfl, rfl⟩
end
def ctOf (Cs : List Str) (N : Str) : Str → Option Bool := fun c => if c ∈ Cs then some (subX c N) else none
theorem ctOf_mem {Cs : List Str} {N c : Str} {b : Bool} (h : ctOf Cs N c = some b) : c ∈ Cs := by
  unfold ctOf at h
  split at h
  · assumption
  · cases h
end Dl
namespace Dl
open PySem L2
/-- a def that ends without a value, or raises -/
def gXU (E : Env) : Rt Unit → Out
  | .ok _ => .nx E
  | .ex c => .ex c []
theorem stOffX {E : Env} : St sNext E (gXU E) (some (.ok ())) := fun r q => by cases q; rfl
theorem stRaiseXU {δ E : Env} {c : Str} : St (sRaise c) δ (gXU E) (some (.ex c)) := fun r q => by cases q; rfl
theorem defXU_of {n np : Nat} {s : Sv} {ds : List D} {E : Env} {TX : Option (Rt Unit)} (hl : ds.length = np) (h : St s (ds.map some ++ List.replicate (n - np) none) (gXU E) TX) : ∀ r, TX = some r → denX n np .sh s ds = some (gR eU r) := fun r q => by
  unfold denX
  rw [if_pos hl, h r q]
  cases r <;> rfl
theorem slots_of {wb wu wr : List Nat} {i : Nat} (h : (wb ++ (wu ++ [i])).all (fun j => wr.contains j) = true) : ∀ j, j ∈ wb ∨ j ∈ wu ∨ j = i → j ∈ wr := fun j hj => by
  have := List.all_eq_true.mp h j (by
    simp only [List.mem_append, List.mem_singleton]
    exact hj)
  simpa using this
def owI : List Mode → Nat → List Nat
  | [], _ => []
  | .ow :: M, i => i :: owI M (i + 1)
  | _ :: M, i => owI M (i + 1)
theorem owI_mem : ∀ (M : List Mode) (i j : Nat), md M j = .ow → (i + j) ∈ owI M i
  | [], i, j, h => by unfold md at h; rw [List.getD_nil] at h; cases h
  | m :: M, i, 0, h => by
    have : m = .ow := h
    subst this
    exact List.mem_cons_self
  | m :: M, i, j + 1, h => by
    have ih := owI_mem M (i + 1) j h
    have e : i + (j + 1) = i + 1 + j := by omega
    rw [e]
    cases m with
    | ow => exact List.mem_cons_of_mem _ ih
    | _ => exact ih
theorem own_of {M : List Mode} {ws : List Nat} (h : (owI M 0).all (fun j => ws.contains j) = true) : ∀ j, md M j = .ow → j ∈ ws := fun j hj => by
  have := List.all_eq_true.mp h j (by have := owI_mem M 0 j hj; rwa [Nat.zero_add] at this)
  simpa using this
end Dl
/-! dict(zip(keys, values)). -/
namespace Dl
open PySem L2 PyProof.Rows
def tDictZip (K : PySem.W.Frag) (ta : TA) : TE := fun σ H Q => ta σ H fun vs H1 => ∃ (a b : Addr) (xs ys : List V) (kvs : List (Key × V)), vs = [.ref a, .ref b] ∧ SqL K H1 a xs ∧ SqL K H1 b ys ∧ xs.zip ys = kvs.map (fun kv => (kV kv.1, kv.2)) ∧ ∀ p, H1 p = none → Q (.ref p) (upd H1 p (.dK (mergeK [] kvs)))
theorem kv_zip (P : Program) (w : World) : ∀ {xs ys : List V} {us ws : List Value} {kvs : List (Key × V)}, Vals xs us → Vals ys ws → xs.zip ys = kvs.map (fun kv => (kV kv.1, kv.2)) → ∃ prs : List (Key × Value), KV kvs prs ∧ prs.length = min us.length ws.length ∧ ∀ (i : Nat) (k v : Value), us[i]? = some k → ws[i]? = some v → ∃ j, prs[i]? = some (j, v) ∧ keyIs j k = true
  | [], ys, us, ws, kvs, r, r', e => by
    cases r
    rw [List.zip_nil_left] at e
    cases kvs with
    | nil => exact ⟨[], .nil, by simp, fun i k v h => by simp at h⟩
    | cons a l => cases e
  | x :: xs, [], us, ws, kvs, r, r', e => by
    cases r'
    rw [List.zip_nil_right] at e
    cases kvs with
    | nil => exact ⟨[], .nil, by simp, fun i k v h h' => by simp at h'⟩
    | cons a l => cases e
  | x :: xs, y :: ys, _, _, kvs, r, r', e => by
    cases r with
    | cons rx rr =>
      cases r' with
      | cons ry rr' =>
        cases kvs with
        | nil => cases e
        | cons kv l =>
          rw [List.zip_cons_cons, List.map_cons] at e
          have e1 := (List.cons.inj e).1
          have e2 := (List.cons.inj e).2
          obtain ⟨prs, h1, h2, h3⟩ := kv_zip P w rr rr' e2
          obtain ⟨k, v⟩ := kv
          have ek : x = kV k := congrArg Prod.fst e1
          have ev : y = v := congrArg Prod.snd e1
          subst ek ev
          rename_i u _ w' _
          refine ⟨(k, w') :: prs, .cons ⟨rfl, ry⟩ h1, by rw [List.length_cons, List.length_cons, List.length_cons, h2]; omega, fun i k' v' q q' => ?_⟩
          cases i with
          | zero =>
            cases q; cases q'
            exact ⟨k, rfl, kV_is (P := P) (w := w) rx⟩
          | succ i => exact h3 i k' v' q q'
theorem pe_dictZip {X : Cx} {e e2 : Expr} {ta : TA} {p p2 q pos : Pos} (hc : X.calm = true) (hg : Gl X "dict") (hm : X.mg "dict" = none) (hg2 : Gl X "zip") (hm2 : X.mg "zip" = none) (ha : PA X [e, e2] ta)
    (hs : starEach [e, e2] X.env = (false, eval e X.env) :: starEach [e2] X.env := by rfl) (hpl : (backTo q (starEach [e2] X.env)).any (·.1) = false := by rfl) :
    PE X (.Call (.Name "dict" p) [.Call (.Name "zip" p2) [e, e2] [] q] [] pos) (tDictZip X.K ta) := by
  refine ⟨fun pins s σ H Q I h => ?_⟩
  refine Call_ (ld_blt I hg hm boot_dict ?_)
  refine callWith_type1 (args_cons ?_ rfl) rfl rfl
  refine Call_ (ld_blt I hg2 hm2 boot_zip (callWith_type1 (thn (ha.run q pins s σ H _ I h) fun us s1 ⟨vs, H1, I1, r1, q1⟩ => ?_) hs hpl))
  obtain ⟨a, b, xs, ys, kvs, ex, hqx, hqy, hz0, q⟩ := q1
  subst ex
  cases r1 with
  | cons r rr =>
    cases rr with
    | cons r' rr =>
      cases rr
      cases r
      cases r'
      obtain ⟨its, rv, p1, l1⟩ := I1.list hqx
      obtain ⟨its2, rv2, p2, l2⟩ := I1.list hqy
      have la : a < s1.heap.objs.size := p1.lt
      have lb : b < s1.heap.objs.size := p2.lt
      obtain ⟨prs, rel, hl, hpr⟩ := kv_zip X.prog X.w rv rv2 hz0
      refine call_zip_2 p1.isList p2.isList fun h' hz hTI hTO h1 h2 hsz hk => ?_
      refine args_nil ?_
      have hsize : prs.length ≤ sizeLine := by
        rw [hl]; exact Nat.le_trans (Nat.min_le_left _ _) (by rw [← rv.length]; exact l1)
      refine PySem.call_dict_pairs (knd := mixKind X.prog X.w) (kvs := prs) (PairArg.zip _ _ _ _ _ a b (PySem.W.ktu_apart s1.heap.objs.size a b la lb) its.toArray its2.toArray) (I1.ok.hd hc) ⟨hz, hTI, ⟨_, _, hTO⟩, h1, h2, p1.isList.at fun o e => hk _ _ e, p2.isList.at fun o e => hk _ _ e⟩ ?_ ?_ fun h'' tk hd' hk' => ?_
      · refine ⟨by rw [hl, List.size_toArray, List.size_toArray], fun i key v ⟨e1, e2⟩ => ?_⟩
        obtain ⟨j, e3, e4⟩ := hpr i key v (by simpa using e1) (by simpa using e2)
        exact ⟨j, e3, e4⟩
      · rw [List.size_toArray, List.size_toArray, ← hl]; exact hsize
      · have hlen : (mergeK [] kvs).length ≤ sizeLine := by
          refine Nat.le_trans (length_mergeK kvs []) ?_
          rw [List.length_nil, Nat.zero_add, rel.length]
          exact hsize
        have hbig : s1.heap.objs.size ≤ h'.objs.size := by rw [hsz]; omega
        have hmm : (h'.objs.size == sysModules) = false := beq_eq_false_iff_ne.mpr (Nat.ne_of_gt (Nat.lt_of_lt_of_le I1.big hbig))
        have kk : ∀ c o, s1.heap.get? c = some o → h''.get? c = some o := fun c o e => hk' c o (fun hm => by
          have hlt := Heap.lt_size e
          simp only [List.mem_cons, List.not_mem_nil, or_false] at hm
          rcases hm with z | z | z | z
          · exact absurd (z ▸ hlt) (Nat.not_lt.mpr (Nat.le_add_right _ _))
          · exact absurd (z ▸ hlt) (Nat.not_lt.mpr (Nat.le_add_right _ _))
          · exact absurd (z ▸ hlt) (Nat.lt_irrefl _)
          · exact absurd (z ▸ hlt) (Nat.not_lt.mpr (Nat.le_add_right _ _))) (hk c o e)
        exact ⟨.ref h'.objs.size, upd H1 h'.objs.size (.dK (mergeK [] kvs)), I1.laid (t' := tk) kk hbig (show ObjOk X.prog X.w _ _ _ (.dK (mergeK [] kvs)) from ⟨hlen, hmm, merged [] prs, KV.merge rel .nil, hd'⟩), rfl, q _ (I1.hok.fresh hbig)⟩
def zipKD : List D → List D → Option (List (Key × D))
  | a :: as, b :: bs => (keyD a).bind fun k => (zipKD as bs).map ((k, b) :: ·)
  | _, _ => some []
def opDictZ : List D → Option D
  | [.lst as, .lst bs] => (zipKD as bs).map fun kvs => .dicK (mergeD [] kvs)
  | _ => none
theorem RepL.zipKD {K : PySem.W.Frag} {Γ : CM} {S : Hp} : ∀ {as bs : List D} {xs ys : List V} {kvs : List (Key × D)}, RepL K Γ S as xs → RepL K Γ S bs ys → zipKD as bs = some kvs → ∃ vs : List (Key × V), xs.zip ys = vs.map (fun kv => (kV kv.1, kv.2)) ∧ RepK K Γ S kvs vs
  | [], _, _, _, kvs, r, r', e => by
    cases (show _ = [] from r)
    obtain rfl : [] = kvs := Option.some.inj (show some [] = some kvs from e)
    exact ⟨[], by rw [List.zip_nil_left]; rfl, rfl⟩
  | a :: as, [], _, _, kvs, r, r', e => by
    cases (show _ = [] from r')
    obtain rfl : [] = kvs := Option.some.inj (show some [] = some kvs from e)
    exact ⟨[], by rw [List.zip_nil_right]; rfl, rfl⟩
  | a :: as, b :: bs, _, _, _, ⟨x, xs, e1, rx, tx⟩, ⟨y, ys, e2, ry, ty⟩, e => by
    subst e1 e2
    have e : (keyD a).bind (fun k => (Dl.zipKD as bs).map ((k, b) :: ·)) = some _ := e
    obtain ⟨k, e3, e4⟩ := bind_some e
    obtain ⟨kvs', e5, rfl⟩ := map_some e4
    obtain ⟨vs, e6, r6⟩ := RepL.zipKD tx ty e5
    exact ⟨(k, y) :: vs, by rw [List.zip_cons_cons, List.map_cons, e6, rx.key e3], ⟨y, vs, rfl, ry, r6⟩⟩
section
variable {X : Cx} {Γ : CM} {M : List Mode} {e e2 : Expr} {ta : TA} {fr : Env → Option (List D)} {p p2 q pos : Pos}
theorem de_dictZip (K : PySem.W.Frag) (hc : X.calm = true) (hm : X.mg "dict" = none) (hm2 : X.mg "zip" = none) (ha : DAr Γ X M [e, e2] ta fr [.bo, .bo]) (hg : Gl X "dict" := by rfl) (hg2 : Gl X "zip" := by rfl)
    (hs : starEach [e, e2] X.env = (false, eval e X.env) :: starEach [e2] X.env := by rfl) (hpl : (backTo q (starEach [e2] X.env)).any (·.1) = false := by rfl) (hK : X.K = K := by rfl) :
    DE Γ X M (.Call (.Name "dict" p) [.Call (.Name "zip" p2) [e, e2] [] q] [] pos) (tDictZip K ta) (vC1 opDictZ fr) .ow := by
  subst hK
  refine ⟨pe_dictZip hc hg hm hg2 hm2 ha.pa hs hpl, fun S0 H0 S H σ δ Q d w ef k => ?_⟩
  obtain ⟨ds, e1, e2⟩ := bind_some ef
  refine ha.snd S0 H0 S H σ δ _ ds w e1 fun vs S1 H1 x1 r1 => ?_
  match ds, e2, r1 with
  | [.lst as, .lst bs], e2, r1 =>
    obtain ⟨kvs, e3, rfl⟩ := map_some (show (zipKD as bs).map (fun kvs => D.dicK (mergeD [] kvs)) = some d from e2)
    obtain ⟨v, v2, rfl, ra, rb⟩ := ArgMs.get2 r1
    obtain ⟨p, xs, rfl, hp, hl, rl⟩ := ra.lst x1.sh (Same.refl _)
    obtain ⟨p', ys, rfl, hp', hl', rl'⟩ := rb.lst x1.sh (Same.refl _)
    obtain ⟨vs, e4, r4⟩ := rl.zipKD rl' e3
    exact ⟨p, p', xs, ys, vs, rfl, SqL.of hp, SqL.of hp', e4, fun q hq => (k.ext x1).newK rfl x1.sh (r4.merge rfl) hq⟩
end
end Dl
namespace Dl
open PySem L2
theorem zipKD_enc {κ α : Type} {ke : κ → Key} {ek : κ → D} (hk : ∀ j, keyD (ek j) = some (ke j)) (e : α → D) : ∀ (xs : List κ) (ys : List α), zipKD (xs.map ek) (ys.map e) = some ((xs.zip ys).map fun p => (ke p.1, e p.2))
  | [], ys => rfl
  | x :: xs, [] => rfl
  | x :: xs, y :: ys => by
    show (keyD (ek x)).bind (fun k => (zipKD (xs.map ek) (ys.map e)).map ((k, e y) :: ·)) = _
    rw [hk, Option.bind_some, zipKD_enc hk e xs ys]; rfl
theorem b_dictZ {κ α : Type} [DecidableEq κ] {ke : κ → Key} {ek : κ → D} {e : α → D} (inj : ∀ a b, ke a = ke b → a = b) (hk : ∀ j, keyD (ek j) = some (ke j)) (xs : List κ) (ys : List α) : opDictZ [eL ek xs, eL e ys] = some (eDK ke e (dictT (xs.zip ys))) := by
  show (zipKD (xs.map ek) (ys.map e)).map (fun kvs => D.dicK (mergeD [] kvs)) = _
  rw [zipKD_enc hk]
  show some (D.dicK (mergeD (([] : List (κ × α)).map fun p => (ke p.1, e p.2)) _)) = _
  rw [merge_enc inj]; rfl
end Dl
set_option maxHeartbeats 1000000
/-! a, b, c = a list; text.replace([..][i], [..][j]) behind a statement that puts a token out. -/
namespace Dl
open PySem L2 CwR PyProof.Rows
/-! ### a, b, c = [..] -/
def hLst (n : Nat) (hs : List D → Env → Option Env) : Hv := fun d δ => match d with | .lst ds => if ds.length = n then hs ds δ else none | _ => none
section
variable {X : Cx} {Γ : CM} {M M1 : List Mode} {es : List Expr} {gs : TGs} {hs : List D → Env → Option Env} {ws : List Nat} {pos : Pos}
theorem dg_lstK (K : PySem.W.Frag) {k n : Nat} (hc : X.calm = true) (h : DGs Γ X M es gs hs M1 ws) (hn : (assignEach es X.env).length = n := by rfl) (hst : (assignEach es X.env).findIdx? (·.1) = none := by rfl) (hK : X.K = K := by rfl) : DG Γ X M (.Tuple es k pos) (gLst K n gs) (hLst n hs) M1 ws := by
  subst hK
  exact ⟨pg_lst hc h.pgs hn hst, fun S0 H0 S H σ δ v d Q δ1 w r e kk => by
    cases d with
    | lst ds =>
      obtain ⟨a, vs, ev, hq, hl, rl⟩ := r
      have e' : (if ds.length = n then hs ds δ else none) = some δ1 := e
      by_cases c : ds.length = n
      · rw [if_pos c] at e'
        exact ⟨a, vs, ev, SqL.of (w.sH _ _ hq), by rw [rl.length]; exact c, h.snd S0 H0 S H σ δ vs ds Q δ1 w rl e' kk⟩
      · rw [if_neg c] at e'; cases e'
    | _ => cases e⟩
end
/-! ### replace -/
def pick (y0 y1 : Str) (i : Int) : Option Str := if i = 0 then some y0 else if i = 1 then some y1 else none
theorem pick_item {y0 y1 y : Str} {i : Int} (t : Tok) (h : pick y0 y1 i = some y) : 0 ≤ i ∧ i < 2 ^ 63 ∧ ∃ u, (#[Value.str y0 t, Value.str y1 (t + 1)] : Array Value)[i.toNat]? = some (.str y u) ∧ t ≤ u ∧ u ≤ t + 1 := by
  unfold pick at h
  by_cases c : i = 0
  · rw [if_pos c] at h; cases h; subst c; exact ⟨by omega, by decide, t, rfl, Nat.le_refl _, Nat.le_succ _⟩
  · rw [if_neg c] at h
    by_cases c1 : i = 1
    · rw [if_pos c1] at h; cases h; subst c1; exact ⟨by omega, by decide, t + 1, rfl, Nat.le_succ _, Nat.le_refl _⟩
    · rw [if_neg c1] at h; cases h
abbrev pairF (o : Obj) (y z : Str) : HO := .frz o (.lst [.str y, .str z])
def tRepIx (y0 y1 z0 z1 : Str) (to ti tj : TE) : TE := fun σ H Q => to σ H fun v H1 => ∃ x, v = .str x ∧
  ∀ (a : Addr) (o : Obj), H1 a = none → ti σ (upd H1 a (pairF o y0 y1)) fun vi H2 => ∃ i y, vi = .int i ∧ pick y0 y1 i = some y ∧ H2 a = some (pairF o y0 y1) ∧
  ∀ (b : Addr) (o' : Obj), H2 b = none → tj σ (upd H2 b (pairF o' z0 z1)) fun vj H3 => ∃ j z, vj = .int j ∧ pick z0 z1 j = some z ∧ H3 b = some (pairF o' z0 z1) ∧ (y == z) = false ∧
    x.length + (x.length + 1) * z.length ≤ 16777216 ∧ Q (.str (Txt.replace x y z)) H3
section
variable {X : Cx} {o ei ej : Expr} {to ti tj : TE} {y0 y1 z0 z1 : Str}
theorem pair_list {pins : List (Addr × Obj)} {σ : L2.St} {H : Hp} {s : Shared} {a : Addr} {ob : Obj} {y z : Str} {t u : Tok} (I : Inv X pins σ H s) (h : H a = some (pairF ob y z)) (hc : ob.cls = .type "list") {n : Nat} (hd : ob.data = .seq #[.str y t, .str z u] n) : s.heap.IsList a #[.str y t, .str z u] := by
  obtain ⟨h5, _⟩ := I.hok a _ h
  exact ⟨ob, h5, hc, n, hd⟩
theorem pet_rep {j0 j1 k0 k1 : Nat} {c0 c1 d0 d1 lp lp2 p1 p2 apos pos : Pos} (ho : PE X o to) (hi : PE X ei ti) (hj : PE X ej tj) (hpi : PlainIx ei) (hpj : PlainIx ej)
    (hst : starEach [.Subscript (.List [.Constant (.str y0) j0 c0, .Constant (.str y1) j1 c1] lp) ei p1, .Subscript (.List [.Constant (.str z0) k0 d0, .Constant (.str z1) k1 d1] lp2) ej p2] X.env =
      [(false, eval (.Subscript (.List [.Constant (.str y0) j0 c0, .Constant (.str y1) j1 c1] lp) ei p1) X.env), (false, eval (.Subscript (.List [.Constant (.str z0) k0 d0, .Constant (.str z1) k1 d1] lp2) ej p2) X.env)] := by rfl)
    (hbase : attributeBase o "replace" X.env (eval o X.env) = eval o X.env := by rfl) (hline : (apos.endLine == pos.line) = true := by rfl) :
    PET X (.Call (.Attribute o "replace" apos) [.Subscript (.List [.Constant (.str y0) j0 c0, .Constant (.str y1) j1 c1] lp) ei p1, .Subscript (.List [.Constant (.str z0) k0 d0, .Constant (.str z1) k1 d1] lp2) ej p2] [] pos) (tRepIx y0 y1 z0 z1 to ti tj) := by
  intro pins s σ H Q h0 I h
  refine PySem.Call_method2 hbase hst hline (wpAny_mono (PySem.wpAny_toks (ho.run pins s σ H _ I h)) (fun v s1 q => ?_) fun _ _ z => z.2)
  obtain ⟨hk, v', H1, I1, r1, x, e1, q⟩ := q
  subst e1
  obtain ⟨tx, e2⟩ := r1
  subst e2
  have h2l : (2 : Nat) ≤ sizeLine := by decide
  refine ⟨"str", _, PySem.F.plainAttrs_str, PySem.F.slot_str_replace, PySem.F.type_str_replace, typeIs_str _ _ _, (fun _ e => nomatch e), Calls.callWith_builtin rfl (Calls.evalArgs_plain (Calls.spliced_cons ?_))⟩
  refine Subscript_ (wpAny_List_spliced ?_)
  show wpAny _ _ (spliced ((false, eval (.Constant (.str y0) j0 c0) X.env) :: backTo lp (starEach [.Constant (.str y1) j1 c1] X.env))) _ _ s1
  refine Calls.spliced_cons (Calls.Constant_str ?_)
  show wpAny _ _ (spliced ((false, eval (.Constant (.str y1) j1 c1) X.env) :: backTo lp (starEach [] X.env))) _ _ _
  refine Calls.spliced_cons (Calls.Constant_str (Calls.spliced_nil ?_))
  refine ⟨h2l, ?_⟩
  have n1 : H1 s1.heap.objs.size = none := I1.hok.fresh (Nat.le_refl _)
  have I2 : Inv X pins σ (upd H1 s1.heap.objs.size (pairF { cls := .type "list", data := .seq #[.str y0 s1.toks, .str y1 (s1.toks + 1)] 0 } y0 y1)) { s1 with heap := s1.heap.push { cls := .type "list", data := .seq #[.str y0 s1.toks, .str y1 (s1.toks + 1)] 0 }, toks := s1.toks + 1 + 1 } :=
    I1.laid (t' := s1.toks + 1 + 1) (fun b u e => Heap.get?_push_of_some _ e) (Nat.le_refl _) ⟨Heap.get?_push_size _ rfl, h2l, [.str y0 s1.toks, .str y1 (s1.toks + 1)], 0, .cons ⟨_, rfl⟩ (.cons ⟨_, rfl⟩ .nil), Heap.get?_push_size _ rfl⟩
  refine wpAny_mono (PySem.wpAny_toks (hi.run pins _ σ _ _ I2 (q _ _ n1))) (fun vi s3 q3 => ?_) fun _ _ z => z.2
  obtain ⟨hk3, xi, H2, I3, ri, i, y, exi, hp, hfr, q⟩ := q3
  have hk3 : s1.toks + 1 + 1 ≤ s3.toks := hk3
  subst exi
  obtain ⟨ti', rfl⟩ := ri
  obtain ⟨g0, g1, u1, hu, hu1, hu2⟩ := pick_item s1.toks hp
  refine item_listR (s := s3) (pair_list I3 hfr rfl rfl) g0 g1 hu ?_ (hpi _ _)
  refine Calls.spliced_cons (Subscript_ (wpAny_List_spliced ?_))
  show wpAny _ _ (spliced ((false, eval (.Constant (.str z0) k0 d0) X.env) :: backTo lp2 (starEach [.Constant (.str z1) k1 d1] X.env))) _ _ s3
  refine Calls.spliced_cons (Calls.Constant_str ?_)
  show wpAny _ _ (spliced ((false, eval (.Constant (.str z1) k1 d1) X.env) :: backTo lp2 (starEach [] X.env))) _ _ _
  refine Calls.spliced_cons (Calls.Constant_str (Calls.spliced_nil ?_))
  refine ⟨h2l, ?_⟩
  have n3 : H2 s3.heap.objs.size = none := I3.hok.fresh (Nat.le_refl _)
  have I4 : Inv X pins σ (upd H2 s3.heap.objs.size (pairF { cls := .type "list", data := .seq #[.str z0 s3.toks, .str z1 (s3.toks + 1)] 0 } z0 z1)) { s3 with heap := s3.heap.push { cls := .type "list", data := .seq #[.str z0 s3.toks, .str z1 (s3.toks + 1)] 0 }, toks := s3.toks + 1 + 1 } :=
    I3.laid (t' := s3.toks + 1 + 1) (fun b u e => Heap.get?_push_of_some _ e) (Nat.le_refl _) ⟨Heap.get?_push_size _ rfl, h2l, [.str z0 s3.toks, .str z1 (s3.toks + 1)], 0, .cons ⟨_, rfl⟩ (.cons ⟨_, rfl⟩ .nil), Heap.get?_push_size _ rfl⟩
  refine wpAny_mono (PySem.wpAny_toks (hj.run pins _ σ _ _ I4 (q _ _ n3))) (fun vj s5 q5 => ?_) fun _ _ z => z.2
  obtain ⟨hk5, xj, H3, I5, rj, j, z, exj, hpz, hfz, hyz, hb, q⟩ := q5
  subst exj
  obtain ⟨tj', rfl⟩ := rj
  obtain ⟨g2, g3, u2, hz, hz1, hz2⟩ := pick_item s3.toks hpz
  refine item_listR (s := s5) (pair_list I5 hfz rfl rfl) g2 g3 hz ?_ (hpj _ _)
  refine Calls.spliced_nil ?_
  have hk' : s.toks ≤ s1.toks := hk
  have a1 : @LE.le Nat _ s1.toks u1 := hu1
  have a2 : @LE.le Nat _ u1 (s1.toks + 1) := hu2
  have a3 : @LE.le Nat _ s3.toks u2 := hz1
  have a4 : 1 ≤ s.toks := h0
  have b1 : @LT.lt Nat _ 0 u1 := by omega
  have b2 : @LT.lt Nat _ 0 u2 := by omega
  have b3 : @LT.lt Nat _ u1 u2 := by omega
  exact PySem.SC.replace (Nat.ne_of_gt b1) (Nat.ne_of_gt b2) (Nat.ne_of_lt b3) hyz hb fun t' k => ⟨.str (Txt.replace x y z), H3, I5.tok k, ⟨t', rfl⟩, q⟩
/-- a written text's item is stored: behind it a token is out -/
theorem pss_tokSub {st : List Stmt} {b : Expr} {tb : TE} {u : TS} {i j : Nat} {x c : Str} {cp p2 pos' pos : Pos} (hN : X.N.Nodup) (hi : X.N[i]? = some x) (hx : Loc X.env.scope x) (hu : X.A.units + 1 < cLine) (hb : PE X b tb) (hpi : PlainIx b) (h2 : PSsT X st u)
    (hs : swapsWith (.Subscript (.Constant (.str c) j cp) b p2) (some (.Name x pos')) pos.line X.env = pure false := by rfl) (hf : X.fn x = true ∨ X.env.scope.names.lookup x = some .local := by first | exact .inl rfl | exact .inr rfl | assumption) :
    PSs X (.Assign [.Name x pos'] (.Subscript (.Constant (.str c) j cp) b p2) pos :: st) (tSeq (tAsg (tOp (rIxA X.K) (tC (.str c)) tb) (gName i)) u) := by
  refine ⟨fun pins s σ H D I h => ?_⟩
  refine wpAny_execs_cons (wpAny_Assign_Name (Subscript_ (Calls.Constant_str ?_)) hs)
  have h : tb σ H fun y H1 => rIxA X.K (.str c) y H1 fun v H2 => u D (σ.set i (some v)) H2 := h
  refine wpAny_mono (PySem.wpAny_toks (hb.run pins _ σ H _ (I.tok (s.toks + 1)) h)) (fun w s2 q => ?_) fun _ _ z => z.2
  obtain ⟨hk2, y, H1, I1, r1, q1⟩ := q
  have hk2 : s.toks + 1 ≤ s2.toks := hk2
  refine wpAny_mono (PySem.wpAny_toks (ix_all hu _ _ pins s2 σ H1 (.str c) y (.str c s.toks) w _ I1 ⟨_, rfl⟩ r1 q1 (hpi _ _))) (fun v s3 q => ?_) fun _ _ z => z.2
  obtain ⟨hk3, z, H2, I2, r2, q2⟩ := q
  refine wpAny_mono (PySem.wpAny_toks (store_ok (v := z) (u := v) (Q := fun _ s4 => Inv X pins (σ.set i (some z)) H2 s4) I2 hN hi hx r2 (fun _ I3 => I3) hf)) (fun _ s4 q => ?_) fun _ _ z => z.2
  have hk4 : s3.toks ≤ s4.toks := q.1
  exact h2 pins s4 _ H2 D (by omega) q.2 q2
end
structure DET (Γ : CM) (X : Cx) (M : List Mode) (e : Expr) (t : TE) (f : Ev) (m : Mode) : Prop where
  pet : PET X e t
  snd : SndE X.K Γ M t f m
structure DST (Γ : CM) (X : Cx) (E : WX) (rm : RM) (M : List Mode) (st : Stmt) (t : TS) (f : Sv) (M' : List Mode) (ws : List Nat) : Prop where
  pst : PST X st t
  snd : SndS X.K Γ E rm M t f M' ws
structure DSsT (Γ : CM) (X : Cx) (E : WX) (rm : RM) (M : List Mode) (st : List Stmt) (t : TS) (f : Sv) (M' : List Mode) (ws : List Nat) : Prop where
  psst : PSsT X st t
  snd : SndS X.K Γ E rm M t f M' ws
section
variable {X : Cx} {Γ : CM} {E : WX} {rm : RM} {M M1 M2 : List Mode} {st : Stmt} {rest body els : List Stmt} {e o ei ej c b : Expr} {te to ti tj tb : TE} {tc : TT} {t u : TS} {f fo fi fj fb : Ev} {p : Env → Option Bool} {s s' : Sv} {m mo mi mj mb : Mode} {pos : Pos} {ws wt : List Nat} {y0 y1 z0 z1 : Str}
def replT (x y z : Str) : Option Str := if (y == z) = false ∧ x.length + (x.length + 1) * z.length ≤ 16777216 then some (Txt.replace x y z) else none
def rplT (y0 y1 z0 z1 x : Str) (i j : Int) : Option Str := (pick y0 y1 i).bind fun y => (pick z0 z1 j).bind fun z => replT x y z
def vRep (y0 y1 z0 z1 : Str) (fo fi fj : Ev) : Ev := fun δ => (fo δ).bind fun d => (fi δ).bind fun i => (fj δ).bind fun j => match d, i, j with
  | .str x, .int i, .int j => (rplT y0 y1 z0 z1 x i j).map D.str
  | _, _, _ => none
theorem det_rep {j0 j1 k0 k1 : Nat} {c0 c1 d0 d1 lp lp2 p1 p2 apos : Pos} (ho : DE Γ X M o to fo mo) (hi : DE Γ X M ei ti fi mi) (hj : DE Γ X M ej tj fj mj) (hpi : PlainIx ei := by exact fun _ _ => rfl) (hpj : PlainIx ej := by exact fun _ _ => rfl)
    (hst : starEach [.Subscript (.List [.Constant (.str y0) j0 c0, .Constant (.str y1) j1 c1] lp) ei p1, .Subscript (.List [.Constant (.str z0) k0 d0, .Constant (.str z1) k1 d1] lp2) ej p2] X.env =
      [(false, eval (.Subscript (.List [.Constant (.str y0) j0 c0, .Constant (.str y1) j1 c1] lp) ei p1) X.env), (false, eval (.Subscript (.List [.Constant (.str z0) k0 d0, .Constant (.str z1) k1 d1] lp2) ej p2) X.env)] := by rfl)
    (hbase : attributeBase o "replace" X.env (eval o X.env) = eval o X.env := by rfl) (hline : (apos.endLine == pos.line) = true := by rfl) :
    DET Γ X M (.Call (.Attribute o "replace" apos) [.Subscript (.List [.Constant (.str y0) j0 c0, .Constant (.str y1) j1 c1] lp) ei p1, .Subscript (.List [.Constant (.str z0) k0 d0, .Constant (.str z1) k1 d1] lp2) ej p2] [] pos) (tRepIx y0 y1 z0 z1 to ti tj) (vRep y0 y1 z0 z1 fo fi fj) .sh :=
  ⟨pet_rep ho.pe hi.pe hj.pe hpi hpj hst hbase hline, fun S0 H0 S H σ δ Q d w ef k => by
    obtain ⟨d1, e1, e2⟩ := bind_some ef
    obtain ⟨d2, e3, e4⟩ := bind_some e2
    obtain ⟨d3, e5, e6⟩ := bind_some e4
    refine ho.snd S0 H0 S H σ δ _ d1 w e1 fun v S1 H1 x1 r1 _ => ?_
    have w1 := w.mono x1
    cases d1 with
    | str x =>
      cases d2 with
      | int i =>
        cases d3 with
        | int j =>
          obtain ⟨r, e7, rfl⟩ := map_some (show (rplT y0 y1 z0 z1 x i j).map D.str = some d from e6)
          unfold rplT at e7
          obtain ⟨y, e8, e9⟩ := bind_some e7
          obtain ⟨z, e10, e11⟩ := bind_some e9
          unfold replT at e11
          obtain ⟨⟨c1, c2⟩, rfl⟩ := ite_some e11
          refine ⟨x, (r1.str w1.h0).1, fun a ob na => ?_⟩
          have x2 : Ext S1 H1 S1 (upd H1 a (pairF ob y0 y1)) := Ext.owned x1.sh na _
          refine hi.snd S0 H0 S1 _ σ δ _ _ (w1.mono x2) e3 fun vi S3 H3 x3 r3 _ => ?_
          have w3 := (w1.mono x2).mono x3
          refine ⟨i, y, r3.int w3.h0, e8, x3.hh _ _ upd_same, fun b ob' nb => ?_⟩
          have x4 : Ext S3 H3 S3 (upd H3 b (pairF ob' z0 z1)) := Ext.owned x3.sh nb _
          refine hj.snd S0 H0 S3 _ σ δ _ _ (w3.mono x4) e5 fun vj S5 H5 x5 r5 _ => ?_
          have w5 := (w3.mono x4).mono x5
          refine ⟨j, z, r5.int w5.h0, e10, x5.hh _ _ upd_same, c1, c2, ?_⟩
          exact (k.ext (((x1.trans x2).trans x3).trans (x4.trans x5))).flat x5.sh ⟨rfl, Nat.le_trans (TK.replace_len x y z) (Nat.le_trans c2 (by decide))⟩
        | _ => cases e6
      | _ => cases e6
    | _ => cases e6⟩
theorem dst_ret {xo : List Nat} (he : DET Γ X M e te f m) : DST Γ X E ⟨m, [], xo⟩ M (.Return (some e) pos) (tRet te) (sRet f) M1 [] := ⟨pst_ret he.pet, fun S0 H0 S H σ δ Dn o w ef k => by
  unfold sRet at ef
  cases q : f δ with
  | none => rw [q] at ef; cases ef
  | some d =>
    rw [q] at ef; cases ef
    exact he.snd S0 H0 S H σ δ _ d w q fun v S1 H1 x1 r1 fr => k v S1 H1 σ x1.ss (w.ext.trans x1) Fr.refl ⟨r1, fun z a ev p hp => w.ext.hh.free (fr z a ev p hp)⟩⟩
theorem DS.toT (h : DS Γ X E rm M st t s M1 ws) : DST Γ X E rm M st t s M1 ws := ⟨PST.of h.ps, h.snd⟩
theorem DSs.toT (h : DSs Γ X E rm M rest t s M1 ws) : DSsT Γ X E rm M rest t s M1 ws := ⟨PSsT.of h.pss, h.snd⟩
theorem dsst_one (h1 : DST Γ X E rm M st t s M1 ws) : DSsT Γ X E rm M [st] t s M1 ws := ⟨psst_one h1.pst, h1.snd⟩
theorem dsst_cons (h1 : DST Γ X E rm M st t s M1 ws) (h2 : DSsT Γ X E rm M1 rest u s' M2 wt) : DSsT Γ X E rm M (st :: rest) (tSeq t u) (sSeq s s') M2 (ws ++ wt) := ⟨psst_cons h1.pst h2.psst, snd_seq h1.snd h2.snd⟩
theorem dst_if (hc : DT Γ X M c tc p) (ha : DSsT Γ X E rm M body t s M1 ws) (hb : DSsT Γ X E rm M els u s' M1 wt) : DST Γ X E rm M (.If c body els pos) (tIfS tc t u) (sIf p s s') M1 (ws ++ wt) := ⟨pst_if hc.pt ha.psst hb.psst, fun S0 H0 S H σ δ Dn o w ef k => by
  obtain ⟨b, e1, e2⟩ := bind_some ef
  refine hc.snd S0 H0 S H σ δ _ b w e1 fun S1 H1 x1 => ?_
  cases b with
  | true => rw [if_pos rfl] at e2 ⊢; exact ha.snd S0 H0 S1 H1 σ δ Dn o (w.mono x1) e2 ((k.ss x1.ss).up fun j => List.mem_append_left _)
  | false => rw [if_neg Bool.false_ne_true] at e2 ⊢; exact hb.snd S0 H0 S1 H1 σ δ Dn o (w.mono x1) e2 ((k.ss x1.ss).up fun j => List.mem_append_right _)⟩
theorem dss_tokSub (K : PySem.W.Frag) {i j : Nat} {x cc : Str} {cp p2 pos' : Pos} (hN : X.N.Nodup) (hu : X.A.units + 64 < cLine) (hb : DE Γ X M b tb fb mb) (h2 : DSsT Γ X E rm M1 rest u s' M2 wt) (hM : M.set i .sh = M1 := by rfl) (hi : X.N[i]? = some x := by rfl) (hx : Loc X.env.scope x := by first | exact Or.inl rfl | exact Or.inr rfl) (hl : i < M.length := by decide) (hz : cc.length ≤ sizeLine := by decide +kernel)
    (hpi : PlainIx b := by exact fun _ _ => rfl) (hs : swapsWith (.Subscript (.Constant (.str cc) j cp) b p2) (some (.Name x pos')) pos.line X.env = pure false := by rfl) (hf : X.fn x = true ∨ X.env.scope.names.lookup x = some .local := by first | exact .inl rfl | exact .inr rfl | assumption) (hK : X.K = K := by rfl) :
    DSs Γ X E rm M (.Assign [.Name x pos'] (.Subscript (.Constant (.str cc) j cp) b p2) pos :: rest) (tSeq (tAsg (tOp (rIxA K) (tC (.str cc)) tb) (gName i)) u) (sSeq (sSet i (v2 opIx (vC (.str cc)) fb)) s') M2 ([i] ++ wt) := by
  subst hK
  subst hM
  exact ⟨pss_tokSub hN hi hx (by omega) hb.pe hpi h2.psst hs hf, snd_seq (snd_set hl (.inl rfl) (snd_op snd_ix (snd_c fun _ => ⟨rfl, hz⟩) hb.snd)) h2.snd⟩
end
end Dl
namespace Dl
open PySem L2
section
variable {α : Type} {e : α → D} {f fo fi fj : Ev} {δ : Env} {X : Option (List α)} {So : Option Str} {I J : Option Int} {y0 y1 z0 z1 : Str}
def un2 (xs : List α) : Option (α × α) := match xs with | [a, b] => some (a, b) | _ => none
def un3 (xs : List α) : Option (α × α × α) := match xs with | [a, b, c] => some (a, b, c) | _ => none
def eL2 (e : α → D) (p : α × α) : D := .lst [e p.1, e p.2]
def eL3 (e : α → D) (p : α × α × α) : D := .lst [e p.1, e p.2.1, e p.2.2]
theorem un2M (a : EvM f δ (eL e) X) : EvM f δ (eL2 e) (X.bind un2) := fun r q => by
  obtain ⟨xs, q1, q2⟩ := bind_eq q
  rw [a xs q1]
  match xs, q2 with
  | [x, y], q2 => cases q2; rfl
theorem un3M (a : EvM f δ (eL e) X) : EvM f δ (eL3 e) (X.bind un3) := fun r q => by
  obtain ⟨xs, q1, q2⟩ := bind_eq q
  rw [a xs q1]
  match xs, q2 with
  | [x, y, z], q2 => cases q2; rfl
theorem vRep_def (fo fi fj : Ev) (δ : Env) : vRep y0 y1 z0 z1 fo fi fj δ = (fo δ).bind fun d => (fi δ).bind fun i => (fj δ).bind fun j => match d, i, j with
  | .str x, .int i, .int j => (rplT y0 y1 z0 z1 x i j).map D.str
  | _, _, _ => none := rfl
theorem rplM (a : EvM fo δ D.str So) (b : EvM fi δ D.int I) (c : EvM fj δ D.int J) : EvM (vRep y0 y1 z0 z1 fo fi fj) δ D.str (So.bind fun x => I.bind fun i => J.bind fun j => rplT y0 y1 z0 z1 x i j) := fun r q => by
  obtain ⟨x, q1, q2⟩ := bind_eq q
  obtain ⟨i, q3, q4⟩ := bind_eq q2
  obtain ⟨j, q5, q6⟩ := bind_eq q4
  rw [vRep_def, a x q1, Option.bind_some, b i q3, Option.bind_some, c j q5, Option.bind_some]
  show (rplT y0 y1 z0 z1 x i j).map D.str = _
  rw [q6]; rfl
def mapRt {β : Type} (g : α → β) (T : Option (Rt α)) : Option (Rt β) := T.map fun r => match r with | .ok x => .ok (g x) | .ex c => .ex c
theorem xvMap {β : Type} {e2 : β → D} {g : α → β} {fx : Xv} {TX : Option (Rt α)} (h : XvM fx δ e TX) (hc : ∀ x, e2 (g x) = e x) : XvM fx δ e2 (mapRt g TX) := fun r q => by
  cases TX with
  | none => cases q
  | some y =>
    cases y with
    | ok x => cases q; rw [h _ rfl]; show some (Res.ok (e x)) = some (Res.ok (e2 (g x))); rw [hc]
    | ex c => cases q; rw [h _ rfl]; rfl
theorem stNv {β : Type} {s : Sv} {g : β → Out} : St s δ g none := fun r q => by cases q
end
end Dl
set_option maxHeartbeats 1000000
/-! for x in reversed(range(n)); text.join(reversed(list)); tuple.index. -/
namespace Dl
open PySem L2 PyProof.Rows
section
variable {X : Cx} {Γ : CM} {M : List Mode} {a e o tg : Expr} {ta te to : TE} {f fo fe : Ev} {m mo me : Mode} {pos apos : Pos} {K : PySem.W.Frag}
theorem rngD_rev (n i : Nat) (h : i < n) : (rngD 0 n).reverse[i]? = some (D.int ((n : Int) - 1 + (i : Nat) * (-1))) := by
  rw [List.getElem?_reverse (by rw [rngD_len]; exact h), rngD_len]
  unfold rngD
  rw [List.getElem?_map, List.getElem?_range (by omega)]
  have e : (0 : Int) + ((n - 1 - i : Nat) : Int) = (n : Int) - 1 + (i : Nat) * (-1) := by omega
  rw [← e]; rfl
theorem itc_at {S H : Hp} {n : Nat} {lo : Int} (e : lo = (n : Int) - 1) (sh : Same S H) : ItAt K Γ (Itc lo (-1) n) (rngD 0 n).reverse S H := by
  subst e
  have ln : (rngD 0 n).reverse.length = n := by rw [List.length_reverse, rngD_len]
  refine ⟨fun i d hd => ?_, by rw [ln]; exact Nat.le_refl _⟩
  have hi : i < n := by rw [← ln]; exact (List.getElem?_eq_some_iff.mp hd).1
  rw [rngD_rev n i hi] at hd
  cases hd
  refine ⟨hi, fun x H2 y => ?_⟩
  obtain ⟨e1, e2⟩ := y
  subst e1 e2
  exact ⟨S, Ext.refl sh, rfl⟩
def iRevRF (f : Ev) : Env → Option (List D) := fun δ => (f δ).bind fun d => match d with | .int j => if -1000000 ≤ j ∧ j ≤ 1000000 then some (rngD 0 j.toNat).reverse else none | _ => none
theorem di_revRng {p p2 pos2 : Pos} (hn : X.mg "range" = none) (hn2 : X.mg "reversed" = none) (ha : DE Γ X M a ta f m) (hg : Gl X "range" := by rfl) (hg2 : Gl X "reversed" := by rfl) (na : starEach [a] X.env = (false, eval a X.env) :: starEach [] X.env := by rfl)
    (hs : starEach [.Call (.Name "range" p) [a] [] pos] X.env = (false, eval (.Call (.Name "range" p) [a] [] pos) X.env) :: starEach [] X.env := by rfl) :
    DI Γ X M tg (.Call (.Name "reversed" p2) [.Call (.Name "range" p) [a] [] pos] [] pos2) (iRevR (tRg1 ta)) (iRevRF f) := ⟨pi_revR hg2 hn2 (prg_1 hg hn ha.pe na) hs, fun S0 H0 S H σ δ R ds w ef k => by
  obtain ⟨d, e1, e2⟩ := bind_some ef
  refine ha.snd S0 H0 S H σ δ _ d w e1 fun v S1 H1 x1 r1 _ => ?_
  cases d with
  | int j =>
    have e2 : (if -1000000 ≤ j ∧ j ≤ 1000000 then some (rngD 0 j.toNat).reverse else none) = some ds := e2
    obtain ⟨hj, rfl⟩ := ite_some e2
    refine ⟨j, r1.int (w.mono x1).h0, by decide, by decide, by omega, by omega, k _ S1 H1 x1 ⟨?_, fun S2 H2 x2 s2 => ?_⟩⟩
    · rw [List.length_reverse, rngD_len]; have := million; omega
    · have := itc_at (K := X.K) (Γ := Γ) (S := S2) (H := H2) (n := j.toNat) (lo := 0 + (((j - 0).toNat : Nat) : Int) - 1) (by omega) x2.sh
      rw [show (j - 0).toNat = j.toNat by omega]
      rw [show (j - 0).toNat = j.toNat by omega] at this
      exact this
  | _ => cases e2⟩
end
/-! ### text.join(reversed(list)) -/
section
variable {prog : Program} {w : World} {A : Around} {E : Value → Shared → Prop} {s : Shared}
theorem join_rev {x : Str} {t : Tok} {ys : List Str} {it l : Addr} {items : Array Value} {Q : Value → Shared → Prop} (hh : A.handled = none) (hit : s.heap.IsRevIter it l ((items.size : Int) - 1)) (hl : s.heap.IsList l items) (hne : l ≠ it) (hn : items.size ≤ sizeLine)
    (hP : ∀ acc : Array Value, ItemsOf (fun i v => items[items.size - 1 - i]? = some v) acc items.size → StrsAre acc.toList ys) (hok : (ys.map (·.length)).sum + ys.length * x.length ≤ 16777216)
    (hq : ∀ h' t' k, (∀ b o, b ≠ it → s.heap.get? b = some o → h'.get? b = some o) → Q (.str (Txt.join x ys) t') { s with heap := h', toks := k }) :
    wpAny (model prog w) A (call (.builtin "str.join") [.str x t, .ref it]) Q E s := by
  refine wpAny_call (codeAny_call_builtin F.slot_str_join.plain F.entry_str_join (F.slot_str_join.check _ _ _ _ _ _ _ _ (typeIs_str _ _ _) (F.args_str_join_2 _ _) ?_))
  rw [join_tree_other]
  refine wpAny_bind (wpAny_typeOf hit.typeIs ?_)
  show wpAny _ A.in1 ((pyIter (.ref it)).tryCatch _ >>= fun it => collect it >>= fun items => joinTail x items) _ _ s
  refine wpAny_bind (wpAny_tryCatch (wpAny_pyIter_revIter hit ?_))
  have hh1 : A.in1.handled = none := hh
  refine wpAny_bind (RT.collect_rev (A := A.in1) hh1 hit hl hne hn fun h' tk acc hk hacc => ?_)
  obtain ⟨l, hl, ht⟩ := strsAre_values (hP acc hacc)
  subst ht
  rw [hl]
  have hok' := joinOk_of hok
  unfold JoinOk at hok'
  rw [Bool.not_eq_true'] at hok'
  have g : Gives (joinTail x (strValues l)) (joinMade x l) := by
    have g0 := gives_joinTail x l hok'
    cases l with
    | nil => exact g0
    | cons p r => cases r with
      | nil => exact g0
      | cons q r' => exact g0
  exact g prog w A (wants Q E) _ (post_join l ⟨joinFit_length hok', fun t' k => hq h' t' k hk⟩)
end
def tJoinRev (K : PySem.W.Frag) (to te : TE) : TE := fun σ H Q => to σ H fun x H1 => ∃ a, x = .str a ∧ te σ H1 fun v H2 => ∃ (q : Addr) (ys : List Str), v = .ref q ∧ SqL K H2 q (ys.map V.str) ∧ (ys.map (·.length)).sum + ys.length * a.length ≤ 16777216 ∧ Q (.str (Txt.join a ys.reverse)) H2
section
variable {X : Cx} {Γ : CM} {M : List Mode} {a e o tg : Expr} {ta te to : TE} {f fo fe : Ev} {m mo me : Mode} {pos apos : Pos}
theorem pe_joinRev {p pos2 : Pos} (hc : X.calm = true) (ho : PE X o to) (hg : Gl X "reversed") (hm : X.mg "reversed" = none) (he : PE X e te)
    (hs : starEach [e] X.env = (false, eval e X.env) :: starEach [] X.env := by rfl)
    (hs1 : starEach [.Call (.Name "reversed" p) [e] [] pos2] X.env = [(false, eval (.Call (.Name "reversed" p) [e] [] pos2) X.env)] := by rfl)
    (hbase : attributeBase o "join" X.env (eval o X.env) = eval o X.env := by rfl) (hline : (apos.endLine == pos.line) = true := by rfl) :
    PE X (.Call (.Attribute o "join" apos) [.Call (.Name "reversed" p) [e] [] pos2] [] pos) (tJoinRev X.K to te) := by
  refine ⟨fun pins s σ H Q I h => ?_⟩
  refine PySem.Call_method1 hbase hs1 hline (thn (ho.run pins s σ H _ I h) fun v s1 ⟨x, H1, I1, r1, q1⟩ => ?_)
  obtain ⟨a, rfl, q1⟩ := q1
  obtain ⟨t, rfl⟩ := _root_.id r1
  refine ⟨"str", _, F.plainAttrs_str, F.slot_str_join, F.type_str_join, typeIs_str _ _ _, (fun _ e => nomatch e), Calls.callWith_builtin rfl (Calls.evalArgs_plain (Calls.spliced_cons ?_))⟩
  refine Call_ (ld_blt I1 hg hm PyProof.Rows.boot_reversed (PyProof.Rows.callWith_type1 (args_cons (thn (he.run pins s1 σ H1 _ I1 q1) fun u s2 ⟨v, H2, I2, r2, q2⟩ => args_nil ?_) hs) hs rfl))
  obtain ⟨q, ys, ev, hq, hz, q2⟩ := q2
  subst ev
  obtain rfl : u = Value.ref q := r2
  obtain ⟨its, rv, p', hz2⟩ := I2.list hq
  refine call_reversed_list p'.isList (Calls.spliced_nil ?_)
  have k0 : ∀ b o, s2.heap.get? b = some o → (s2.heap.push (revObj q ((its.toArray.size : Int) - 1))).get? b = some o := fun b o e => Heap.get?_push_of_some _ e
  have I3 : Inv X pins σ H2 { s2 with heap := s2.heap.push (revObj q ((its.toArray.size : Int) - 1)) } := I2.kept (t' := s2.toks) k0
  obtain ⟨f0, f1, f2, f3, f4, f5⟩ := I2.fpOk (H' := H2) (b := s2.heap.objs.size) (Nat.le_refl _) (I2.hok.fresh (Nat.le_refl _))
  have hl := p'.isList
  obtain ⟨ol, hol, _⟩ := _root_.id hl
  have hne : q ≠ s2.heap.objs.size := Nat.ne_of_lt (Heap.lt_size hol)
  have hn : its.toArray.size ≤ sizeLine := by rw [List.size_toArray, ← rv.length]; exact hz2
  refine join_rev (s := { s2 with heap := s2.heap.push (revObj q ((its.toArray.size : Int) - 1)) }) (ys := ys.reverse) (I2.ok.hd hc) ⟨_, Heap.get?_push_size _ rfl, rfl, rfl⟩ (hl.push _) hne hn (fun acc hacc => ?_) ?_ fun h' t' k hk => ⟨.str _, H2, ?_, ⟨t', rfl⟩, q2⟩
  · exact strsAre_of (by rw [List.map_reverse]; exact RT.vals_rev rv hacc)
  · rw [List.map_reverse, List.sum_reverse, List.length_reverse]; exact hz
  · exact I3.turned (t' := k) (fun b o hb e => hk b o hb e) f0 f1 f3 f4 f5
def vJoinR (fo fe : Ev) : Ev := fun δ => (fo δ).bind fun d => (fe δ).bind fun l => match d, l with
  | .str x, .lst ds => mJoin x [.lst ds.reverse]
  | _, _ => none
theorem strsOf_rev : ∀ {ds : List D} {xs : List Str}, strsOf ds.reverse = some xs → strsOf ds = some xs.reverse := by
  have app : ∀ (as bs : List D), strsOf (as ++ bs) = (strsOf as).bind fun x => (strsOf bs).map (x ++ ·) := by
    intro as bs
    induction as with
    | nil => show strsOf bs = _; cases strsOf bs <;> rfl
    | cons a as ih =>
      cases a with
      | str y =>
        show (strsOf (as ++ bs)).map (y :: ·) = ((strsOf as).map (y :: ·)).bind _
        rw [ih]
        cases strsOf as with
        | none => rfl
        | some x => cases strsOf bs <;> rfl
      | _ => rfl
  intro ds
  induction ds with
  | nil => intro xs h; cases h; rfl
  | cons d ds ih =>
    intro xs h
    rw [List.reverse_cons, app] at h
    obtain ⟨ys, e1, e2⟩ := bind_some h
    obtain ⟨zs, e3, rfl⟩ := map_some e2
    cases d with
    | str y =>
      cases e3
      show (strsOf ds).map (y :: ·) = _
      rw [ih e1]
      simp
    | _ => cases e3
theorem de_joinRev (K : PySem.W.Frag) {p pos2 : Pos} (hc : X.calm = true) (hm : X.mg "reversed" = none) (ho : DE Γ X M o to fo mo) (he : DE Γ X M e te fe me) (hg : Gl X "reversed" := by rfl)
    (hs : starEach [e] X.env = (false, eval e X.env) :: starEach [] X.env := by rfl)
    (hs1 : starEach [.Call (.Name "reversed" p) [e] [] pos2] X.env = [(false, eval (.Call (.Name "reversed" p) [e] [] pos2) X.env)] := by rfl)
    (hbase : attributeBase o "join" X.env (eval o X.env) = eval o X.env := by rfl) (hline : (apos.endLine == pos.line) = true := by rfl) (hK : X.K = K := by rfl) :
    DE Γ X M (.Call (.Attribute o "join" apos) [.Call (.Name "reversed" p) [e] [] pos2] [] pos) (tJoinRev K to te) (vJoinR fo fe) .sh := by
  subst hK
  refine ⟨pe_joinRev hc ho.pe hg hm he.pe hs hs1 hbase hline, fun S0 H0 S H σ δ Q d w ef k => ?_⟩
  obtain ⟨d1, e1, e2⟩ := bind_some ef
  obtain ⟨d2, e3, e4⟩ := bind_some e2
  refine ho.snd S0 H0 S H σ δ _ d1 w e1 fun v S1 H1 x1 r1 _ => ?_
  have w1 := w.mono x1
  cases d1 with
  | str x =>
    cases d2 with
    | lst ds =>
      obtain ⟨xs, e5, e6⟩ := bind_some (show (strsOf ds.reverse).bind (fun ys => if (ys.map (·.length)).sum + ys.length * x.length ≤ 16777216 ∧ (Txt.join x ys).length ≤ sizeLine then some (D.str (Txt.join x ys)) else none) = some d from e4)
      obtain ⟨c, rfl⟩ := ite_some e6
      refine ⟨x, (r1.str w1.h0).1, he.snd S0 H0 S1 H1 σ δ _ _ w1 e3 fun u S2 H2 x2 r2 _ => ?_⟩
      obtain ⟨p, vs, rfl, hp, hl, rl⟩ := r2.lst x2.sh (w1.mono x2).h0
      have ew := rl.strsOf (strsOf_rev e5)
      refine ⟨p, xs.reverse, rfl, by rw [← ew]; exact SqL.of hp, by rw [List.map_reverse, List.sum_reverse, List.length_reverse]; exact c.1, ?_⟩
      rw [List.reverse_reverse]
      exact (k.ext (x1.trans x2)).flat x2.sh ⟨rfl, c.2⟩
    | _ => cases e4
  | _ => cases e4
/-! ### a tuple's index of a text -/
def opIndexK (l y : D) : Option D := match l with
  | .ktup ds => match y with
    | .str z => (strsOf ds).bind fun xs => (xs.findIdx? fun x => decide (x = z)).map fun (j : Nat) => D.int (j : Int)
    | _ => none
  | _ => none
def vIndexK (fo fe : Ev) : Ev := fun δ => (fo δ).bind fun l => (fe δ).bind fun y => opIndexK l y
theorem de_indexK (K : PySem.W.Frag) {A : Addr} {ds : List D} {cpos : Pos} (lk : ∃ ob, K.lookup A = some ob ∧ ob.cls = .type "tuple" ∧ ob.dict = none) (rp : ∀ S, Rep K Γ S (.ktup ds) (.ref A)) (ho : PE X o (tC (.ref A))) (he : DE Γ X M e te fe me) (hme : okS me = true := by rfl)
    (h1 : attributeBase o "index" X.env (eval o X.env) = eval o X.env := by rfl)
    (h2 : (((backTo cpos (starEach [e] X.env)).all (!·.1)) && ((backToKw cpos (keywordEach [] X.env)).all (·.1.isSome)) && decide (([e].length + ([] : List Keyword).length + if ([] : List Keyword).isEmpty = true then 0 else 1) < 30)) = true := by rfl) (h3 : (apos.endLine == cpos.line) = true := by rfl)
    (h4 : starEach [e] X.env = (false, eval e X.env) :: starEach [] X.env := by rfl) (h5 : (backTo cpos (starEach [] X.env)).any (·.1) = false := by rfl) (hK : X.K = K := by rfl) :
    DE Γ X M (.Call (.Attribute o "index" apos) [e] [] cpos) (tBM K "tuple" (fun x xs H Q => ∃ p, ∃ ys : List Str, ∃ z j, x = .ref p ∧ xs = [.str z] ∧ SqT K H p (ys.map V.str) ∧ ys[j]? = some z ∧ (∀ m, m < j → ys[m]? ≠ some z) ∧ Q (.int (j : Nat)) H) (tC (.ref A)) (tCons te tNil)) (vIndexK (vC (.ktup ds)) fe) .sh := by
  subst hK
  refine ⟨pe_bm PySem.F.plainAttrs_tuple PySem.F.slot_tuple_index PySem.F.type_tuple_index mt_tup_index ho (pa_cons he.pe pa_nil h4) h1 h2 h3 h4 h5, fun S0 H0 S H σ δ Q d w ef k => ?_⟩
  obtain ⟨l, e1, e2⟩ := bind_some ef
  obtain ⟨y, e3, e4⟩ := bind_some e2
  cases e1
  cases y with
  | str z =>
    obtain ⟨xs, e5, e6⟩ := bind_some (show (strsOf ds).bind (fun xs => (xs.findIdx? fun x => decide (x = z)).map fun (j : Nat) => D.int (j : Int)) = some d from e4)
    obtain ⟨j, e7, rfl⟩ := map_some e6
    obtain ⟨p, vs, ep, hp, hl, rl⟩ := rp S
    cases ep
    have ew := rl.strsOf e5
    refine ⟨.inr (.inl ⟨rfl, lk⟩), ?_⟩
    refine (he.snd.sh hme) S0 H0 S H σ δ _ _ w e3 fun u S2 H2 x2 r2 _ => ?_
    have eu : u = .str z := (r2.str (w.mono x2).h0).1
    obtain ⟨hj, hz, hno⟩ := List.findIdx?_eq_some_iff_getElem.mp e7
    refine ⟨A, xs, z, j, rfl, by rw [eu], by rw [← ew]; exact Same.sqt (w.sH.trans x2.hh) hp, ?_, fun m hm z' => ?_, ?_⟩
    · rw [List.getElem?_eq_getElem hj, of_decide_eq_true hz]
    · rw [List.getElem?_eq_getElem (Nat.lt_trans hm hj)] at z'
      have : ¬ (decide (xs[m] = z) = true) := by simpa using hno m hm
      exact this (decide_eq_true (Option.some.inj z'))
    · exact k (.int (j : Int)) S2 H2 x2 rfl fun q => by cases q
  | _ => cases e4
end
/-! ### a, b, c = x, y, z -/
def tPar3 (i j k : Nat) (ta : TA) : TS := fun D σ H => ta σ H fun vs H1 => ∃ v w u, vs = [v, w, u] ∧ D.nx (((σ.set k (some u)).set j (some w)).set i (some v)) H1
theorem ps_par3 {X : Cx} {i j k : Nat} {x y z : Str} {a b c : Expr} {ta : TA} {px py pz pt pos : Pos} {kt k2 pt2} (hc : X.calm = true) (hN : X.N.Nodup) (hi : X.N[i]? = some x) (hj : X.N[j]? = some y) (hk : X.N[k]? = some z)
    (hx : X.env.scope.names.lookup x = some .local) (hy : X.env.scope.names.lookup y = some .local) (hz : X.env.scope.names.lookup z = some .local) (ha : PA X [a, b, c] ta)
    (hw : swappedStores [.Tuple [.Name x px, .Name y py, .Name z pz] kt pt] (.Tuple [a, b, c] k2 pt2) X.env = pure (some [x, y, z]))
    (hs : swapsWithSole [.Tuple [.Name x px, .Name y py, .Name z pz] kt pt] (.Tuple [a, b, c] k2 pt2) pos.line X.env = pure false := by rfl) :
    PS X (.Assign [.Tuple [.Name x px, .Name y py, .Name z pz] kt pt] (.Tuple [a, b, c] k2 pt2) pos) (tPar3 i j k ta) := by
  refine ⟨fun pins s σ H D I h => ?_⟩
  rw [exec_Assign_arm]
  refine wpAny_bind (wpAny_standAt ?_)
  rw [hs]
  refine wpAny_bind (wpAny_pure ?_)
  rw [if_neg (by decide)]
  refine wpAny_bind (Tuple_ (thn (ha.run _ pins s σ H _ I h) fun us s1 ⟨vs, H1, I1, r1, q1⟩ => ?_))
  obtain ⟨v, w, u, e1, q1⟩ := q1
  subst e1
  obtain ⟨u1, u2, u3, rfl, rv, rw', ru⟩ : ∃ u1 u2 u3, us = [u1, u2, u3] ∧ RelV v u1 ∧ RelV w u2 ∧ RelV u u3 := by
    cases r1 with
    | cons p q =>
      cases q with
      | cons p' q' =>
        cases q' with
        | cons p2 q2 =>
          cases q2
          exact ⟨_, _, _, rfl, p, p', p2⟩
  refine wpAny_newObj_type ?_ (by show 3 ≤ sizeLine; decide)
  have I2 : Inv X pins σ H1 { s1 with heap := s1.heap.push { cls := .type "tuple", data := .seq [u1, u2, u3].toArray } } := I1.kept (t' := s1.toks) fun b o e => Heap.get?_push_of_some _ e
  rw [hw]
  refine wpAny_bind (wpAny_pure ?_)
  show wpAny (model X.prog X.w) X.A (do rule "assign.swapped-stores"; let items ← unpackItems (.ref s1.heap.objs.size) 3 none; assignInOrder [fun v => bindName X.env z v, fun v => bindName X.env y v, fun v => bindName X.env x v] items.reverse; pure Flow.next) _ _ _
  refine wpAny_bind (wpAny_rule (wpAny_bind (unpackItems_tuple (items := #[u1, u2, u3]) (I.ok.hd hc) (IsTup.new s1.heap _) fun h' hx' => ?_)))
  have I3 := I2.kept (h' := h') (t' := s1.toks) fun b o e => hx' b o (Nat.ne_of_lt (Heap.lt_size e)) e
  show wpAny _ _ (assignInOrder [fun v => bindName X.env z v, fun v => bindName X.env y v, fun v => bindName X.env x v] [u3, u2, u1] >>= fun _ => pure Flow.next) _ _ _
  refine wpAny_bind (assignInOrder_cons (wpAny_bindName (store_ok I3 hN hk (.inl hz) ru (fun s2 I4 => ?_) (.inr hz))))
  refine assignInOrder_cons (wpAny_bindName (store_ok I4 hN hj (.inl hy) rw' (fun s3 I5 => ?_) (.inr hy)))
  refine assignInOrder_cons (wpAny_bindName (store_ok I5 hN hi (.inl hx) rv (fun s4 I6 => assignInOrder_nil (wpAny_pure ?_)) (.inr hx)))
  exact ⟨_, H1, I6, q1⟩
def sPar3 (i j k : Nat) (f : Env → Option (List D)) : Sv := fun δ => (f δ).bind fun ds => match ds with
  | [d, e, g] => some (.nx (((δ.set k (some g)).set j (some e)).set i (some d)))
  | _ => none
theorem ds_par3 {X : Cx} {Γ : CM} {M M1 : List Mode} {E : WX} {rm : RM} {i j k : Nat} {x y z : Str} {a b c : Expr} {ta : TA} {f : Env → Option (List D)} {px py pz pt pos : Pos} {kt k2 pt2} (hc : X.calm = true) (hN : X.N.Nodup) (ha : DAr Γ X M [a, b, c] ta f [.sh, .sh, .sh]) (hM : ((M.set k .sh).set j .sh).set i .sh = M1 := by rfl) (hi : X.N[i]? = some x := by rfl) (hj : X.N[j]? = some y := by rfl) (hk : X.N[k]? = some z := by rfl)
    (hx : X.env.scope.names.lookup x = some .local := by rfl) (hy : X.env.scope.names.lookup y = some .local := by rfl) (hz : X.env.scope.names.lookup z = some .local := by rfl) (l1 : i < M.length := by decide) (l2 : j < M.length := by decide) (l3 : k < M.length := by decide)
    (hw : swappedStores [.Tuple [.Name x px, .Name y py, .Name z pz] kt pt] (.Tuple [a, b, c] k2 pt2) X.env = pure (some [x, y, z]) := by rfl)
    (hs : swapsWithSole [.Tuple [.Name x px, .Name y py, .Name z pz] kt pt] (.Tuple [a, b, c] k2 pt2) pos.line X.env = pure false := by rfl) :
    DS Γ X E rm M (.Assign [.Tuple [.Name x px, .Name y py, .Name z pz] kt pt] (.Tuple [a, b, c] k2 pt2) pos) (tPar3 i j k ta) (sPar3 i j k f) M1 ([k] ++ ([j] ++ [i])) :=
  ⟨ps_par3 hc hN hi hj hk hx hy hz ha.pa hw hs, fun S0 H0 S H σ δ Dn o w ef kk => by
    subst hM
    obtain ⟨ds, e1, e2⟩ := bind_some ef
    match ds, e2, e1 with
    | [d, e, g], e2, e1 =>
      cases e2
      refine ha.snd S0 H0 S H σ δ _ _ w e1 fun vs S1 H1 x1 r1 => ?_
      obtain ⟨d', ds', v, vs', q1, q2, r, t⟩ := r1
      obtain ⟨e', es', v', vs2, q3, q4, r', t'⟩ := t
      obtain ⟨g', gs', v2, vs3, q5, q6, r2, t2, t3⟩ := t'
      cases q1
      cases q3
      cases q5
      subst q2 q4 q6 t3
      have w1 := (w.mono x1).store l3 (.inl rfl) (m := .sh) r2 (fun z => by cases z) fun z => by cases z
      have w2 := w1.store (i := j) (by rw [List.length_set]; exact l2) (.inl rfl) (m := .sh) r' (fun z => by cases z) fun z => by cases z
      have w3 := w2.store (i := i) (by rw [List.length_set, List.length_set]; exact l1) (.inl rfl) (m := .sh) r (fun z => by cases z) fun z => by cases z
      exact ⟨v, v', v2, rfl, kk S1 H1 _ x1.ss w3 (Fr.set.trans (Fr.set.trans Fr.set))⟩⟩
end Dl
namespace Dl
open PySem L2
section
variable {f fo fe : Ev} {δ : Env} {N : Option Int} {X : Option (List Str)} {So Y : Option Str} {ks : List Str}
def rngRT (j : Int) : Option (List Int) := (rngT j).map List.reverse
theorem itRevR (a : EvM f δ D.int N) : ItM (iRevRF f) δ D.int (N.bind rngRT) := fun r q => by
  obtain ⟨j, q1, q2⟩ := bind_eq q
  unfold rngRT at q2
  obtain ⟨ys, q3, rfl⟩ := map_some q2
  show (f δ).bind _ = _
  rw [a j q1, Option.bind_some]
  show (if -1000000 ≤ j ∧ j ≤ 1000000 then some (rngD 0 j.toNat).reverse else none) = _
  have h2 := itR (f := vC (.int j)) (δ := δ) (i := j) rfl ys q3
  have h3 : (if -1000000 ≤ j ∧ j ≤ 1000000 then some (rngD 0 j.toNat) else none) = some (ys.map D.int) := h2
  obtain ⟨c, e⟩ := ite_some h3
  rw [if_pos c, e, List.map_reverse]
theorem joinRM (a : EvM fo δ D.str So) (b : EvM fe δ (eL D.str) X) : EvM (vJoinR fo fe) δ D.str (So.bind fun s => X.bind fun xs => joinT s xs.reverse) := fun r q => by
  obtain ⟨s, q1, q2⟩ := bind_eq q
  obtain ⟨xs, q3, q4⟩ := bind_eq q2
  show (fo δ).bind _ = _
  rw [a s q1, Option.bind_some, b xs q3, Option.bind_some]
  show mJoin s [.lst (xs.map D.str).reverse] = _
  rw [← List.map_reverse]
  exact m_join s xs.reverse r q4
theorem idxKM (b : EvM fe δ D.str Y) (hk : ds = ks.map D.str := by rfl) : EvM (vIndexK (vC (.ktup ds)) fe) δ D.int (Y.bind fun y => indexT ks y) := fun r q => by
  subst hk
  obtain ⟨y, q3, q4⟩ := bind_eq q
  unfold indexT at q4
  obtain ⟨j, q5, rfl⟩ := map_some q4
  have e : vIndexK (vC (.ktup (ks.map D.str))) fe δ = (fe δ).bind fun y => opIndexK (.ktup (ks.map D.str)) y := rfl
  rw [e, b y q3, Option.bind_some]
  show (strsOf (ks.map D.str)).bind (fun xs => (xs.findIdx? fun x => decide (x = y)).map fun (j : Nat) => D.int (j : Int)) = _
  rw [strsOf_enc, Option.bind_some, q5]; rfl
theorem stPar3 {α β γ ρ : Type} {i j k : Nat} {s' : Sv} {g : ρ → Out} {e : α → D} {e2 : β → D} {e3 : γ → D} {x : α} {y : β} {z : γ} {fr : Env → Option (List D)} {K : α → β → γ → Option ρ} (h1 : fr δ = some [e x, e2 y, e3 z]) (h : ∀ v w u, St s' (((δ.set k (some (e3 u))).set j (some (e2 w))).set i (some (e v))) g (K v w u)) : St (sSeq (sPar3 i j k fr) s') δ g (lett x fun v => lett y fun w => lett z fun u => K v w u) := fun r q => by
  rw [sSeq_def]
  have : sPar3 i j k fr δ = some (.nx (((δ.set k (some (e3 z))).set j (some (e2 y))).set i (some (e x)))) := by
    show (fr δ).bind _ = _
    rw [h1]; rfl
  rw [this]
  exact h x y z r q
theorem argsP3 {α β γ : Type} {f g h : Ev} {e : α → D} {e2 : β → D} {e3 : γ → D} {x : α} {y : β} {z : γ} (a : EvP f δ e x) (b : EvP g δ e2 y) (c : EvP h δ e3 z) : aCons f (aCons g (aCons h aNil)) δ = some [e x, e2 y, e3 z] := by
  unfold EvP at *
  rw [aCons_def, a, Option.bind_some, aCons_def, b, Option.bind_some, aCons_def, c]; rfl
end
end Dl
set_option maxHeartbeats 1000000
/-! defs that change what is handed in: slots that are lent, and come back. -/
namespace Dl
open PySem L2 PyProof.Rows
/-! ### arguments -/
inductive AK where | sh | bo | io (i : Nat) | rd (i : Nat)
  deriving DecidableEq
def AK.m : AK → Mode
  | .sh => .sh
  | .bo => .bo
  | .io _ => .ow
  | .rd _ => .bo
def ioIx : List AK → List Nat
  | [] => []
  | .io i :: ks => i :: ioIx ks
  | _ :: ks => ioIx ks
def spread : List Mode → List D → Env
  | [], _ => []
  | .ow :: ms, o :: os => some o :: spread ms os
  | _ :: ms, os => none :: spread ms os
def putIo : List AK → List D → Env → Env
  | .io i :: ks, o :: os, δ => putIo ks os (δ.set i (some o))
  | _ :: ks, os, δ => putIo ks os δ
  | [], _, δ => δ
section
variable {K : PySem.W.Frag} {Γ : CM} {S0 H0 S H S' H' : Hp} {σ : L2.St} {M : List Mode} {δ : Env} {ks : List AK} {ds outs : List D} {vs : List V} {pm : List Mode}
def MArg (K : PySem.W.Frag) (Γ : CM) (H0 S H : Hp) (σ : L2.St) (δ : Env) : AK → D → V → Prop
  | .sh, d, v => Rep K Γ S d v
  | .bo, d, v => RepM K Γ H0 S H .bo d v
  | .io i, d, v => δ[i]? = some (some d) ∧ σ[i]? = some (some v)
  | .rd i, d, v => δ[i]? = some (some d) ∧ σ[i]? = some (some v)
def MArgs (K : PySem.W.Frag) (Γ : CM) (H0 S H : Hp) (σ : L2.St) (δ : Env) : List AK → List D → List V → Prop
  | [], ds, vs => ds = [] ∧ vs = []
  | k :: ks, ds, vs => ∃ d ds' v vs', ds = d :: ds' ∧ vs = v :: vs' ∧ MArg K Γ H0 S H σ δ k d v ∧ MArgs K Γ H0 S H σ δ ks ds' vs'
theorem MArg.mono (e : Ext S H S' H') {k : AK} {d : D} {v : V} (r : MArg K Γ H0 S H σ δ k d v) : MArg K Γ H0 S' H' σ δ k d v := by
  cases k with
  | sh => exact Rep.mono e.ss r
  | bo => exact RepM.mono e (show RepM K Γ H0 S H .bo d v from r)
  | io i => exact r
  | rd i => exact r
theorem MArgs.mono (e : Ext S H S' H') : ∀ {ks : List AK} {ds : List D} {vs : List V}, MArgs K Γ H0 S H σ δ ks ds vs → MArgs K Γ H0 S' H' σ δ ks ds vs
  | [], _, _, h => h
  | k :: ks, _, _, ⟨d, ds', v, vs', e1, e2, r, t⟩ => ⟨d, ds', v, vs', e1, e2, r.mono e, MArgs.mono e t⟩
theorem MArgs.len : ∀ {ks : List AK} {ds : List D} {vs : List V}, MArgs K Γ H0 S H σ δ ks ds vs → ds.length = ks.length ∧ vs.length = ks.length
  | [], _, _, ⟨e, e'⟩ => by subst e e'; exact ⟨rfl, rfl⟩
  | k :: ks, _, _, ⟨d, ds', v, vs', e1, e2, r, t⟩ => by
    obtain ⟨h1, h2⟩ := MArgs.len t
    subst e1 e2
    exact ⟨by rw [List.length_cons, List.length_cons, h1], by rw [List.length_cons, List.length_cons, h2]⟩
theorem MArgs.at : ∀ {ks : List AK} {ds : List D} {vs : List V} {n : Nat} {k : AK}, MArgs K Γ H0 S H σ δ ks ds vs → ks[n]? = some k → ∃ d v, ds[n]? = some d ∧ vs[n]? = some v ∧ MArg K Γ H0 S H σ δ k d v
  | [], _, _, _, _, _, h => by simp at h
  | k :: ks, _, _, 0, k', ⟨d, ds', v, vs', e1, e2, r, t⟩, h => by
    subst e1 e2
    cases (show some k = some k' from h)
    exact ⟨d, v, rfl, rfl, r⟩
  | k :: ks, _, _, n + 1, k', ⟨d, ds', v, vs', e1, e2, r, t⟩, h => by
    subst e1 e2
    exact MArgs.at (n := n) t h
theorem mem_ioIx {i : Nat} : ∀ {ks : List AK}, i ∈ ioIx ks ↔ AK.io i ∈ ks
  | [] => by simp [ioIx]
  | k :: ks => by
    cases k with
    | io j => rw [show ioIx (.io j :: ks) = j :: ioIx ks from rfl, List.mem_cons, List.mem_cons, mem_ioIx (ks := ks)]; simp
    | sh => rw [show ioIx (.sh :: ks) = ioIx ks from rfl, List.mem_cons, mem_ioIx (ks := ks)]; simp
    | bo => rw [show ioIx (.bo :: ks) = ioIx ks from rfl, List.mem_cons, mem_ioIx (ks := ks)]; simp
    | rd j => rw [show ioIx (.rd j :: ks) = ioIx ks from rfl, List.mem_cons, mem_ioIx (ks := ks)]; simp
theorem ioIx_pos {i n n' : Nat} : ∀ {ks : List AK}, (ioIx ks).Nodup → ∀ {n n' : Nat}, ks[n]? = some (.io i) → ks[n']? = some (.io i) → n = n'
  | [], _, _, _, h, _ => by simp at h
  | k :: ks, nd, 0, 0, _, _ => rfl
  | k :: ks, nd, 0, n' + 1, h, h' => by
    cases (show some k = some (.io i) from h)
    have m : AK.io i ∈ ks := List.mem_of_getElem? (show ks[n']? = _ from h')
    exact absurd (mem_ioIx.mpr m) (List.nodup_cons.mp (show (i :: ioIx ks).Nodup from nd)).1
  | k :: ks, nd, n + 1, 0, h, h' => by
    cases (show some k = some (.io i) from h')
    have m : AK.io i ∈ ks := List.mem_of_getElem? (show ks[n]? = _ from h)
    exact absurd (mem_ioIx.mpr m) (List.nodup_cons.mp (show (i :: ioIx ks).Nodup from nd)).1
  | k :: ks, nd, n + 1, n' + 1, h, h' => by
    have nd' : (ioIx ks).Nodup := by
      cases k with
      | io j => exact (List.nodup_cons.mp (show (j :: ioIx ks).Nodup from nd)).2
      | _ => exact nd
    exact congrArg (· + 1) (ioIx_pos (n := n) (n' := n') nd' (show ks[n]? = _ from h) (show ks[n']? = _ from h'))
theorem putIo_len : ∀ {ks : List AK} {os : List D} {δ : Env}, (putIo ks os δ).length = δ.length
  | [], _, _ => rfl
  | .io i :: ks, [], δ => putIo_len (ks := ks)
  | .io i :: ks, o :: os, δ => by
    show (putIo ks os (δ.set i (some o))).length = _
    rw [putIo_len (ks := ks), List.length_set]
  | .sh :: ks, os, δ => by cases os <;> exact putIo_len (ks := ks)
  | .bo :: ks, os, δ => by cases os <;> exact putIo_len (ks := ks)
  | .rd _ :: ks, os, δ => by cases os <;> exact putIo_len (ks := ks)
theorem putIo_other {j : Nat} : ∀ {ks : List AK} {os : List D} {δ : Env}, j ∉ ioIx ks → (putIo ks os δ)[j]? = δ[j]?
  | [], _, _, _ => rfl
  | .io i :: ks, [], δ, h => putIo_other (ks := ks) fun z => h (List.mem_cons_of_mem _ z)
  | .io i :: ks, o :: os, δ, h => by
    show (putIo ks os (δ.set i (some o)))[j]? = _
    rw [putIo_other (ks := ks) fun z => h (List.mem_cons_of_mem _ z)]
    exact List.getElem?_set_ne fun e => h (by rw [← e]; exact List.mem_cons_self)
  | .sh :: ks, os, δ, h => by cases os <;> exact putIo_other (ks := ks) h
  | .bo :: ks, os, δ, h => by cases os <;> exact putIo_other (ks := ks) h
  | .rd _ :: ks, os, δ, h => by cases os <;> exact putIo_other (ks := ks) h
theorem putIo_spec {i : Nat} : ∀ {ks : List AK} {os : List D} {δ : Env} {n : Nat}, (ioIx ks).Nodup → os.length = (ioIx ks).length → i < δ.length → ks[n]? = some (.io i) → ∃ o, (spread (ks.map AK.m) os)[n]? = some (some o) ∧ (putIo ks os δ)[i]? = some (some o)
  | [], _, _, _, _, _, _, h => by simp at h
  | .io j :: ks, [], _, _, _, hl, _, _ => by cases hl
  | .io j :: ks, o :: os, δ, 0, nd, hl, hi, h => by
    cases (show some (AK.io j) = some (.io i) from h)
    refine ⟨o, rfl, ?_⟩
    show (putIo ks os (δ.set i (some o)))[i]? = _
    rw [putIo_other (List.nodup_cons.mp (show (i :: ioIx ks).Nodup from nd)).1, List.getElem?_set_self hi]
  | .io j :: ks, o :: os, δ, n + 1, nd, hl, hi, h => putIo_spec (ks := ks) (os := os) (δ := δ.set j (some o)) (n := n) (List.nodup_cons.mp (show (j :: ioIx ks).Nodup from nd)).2 (Nat.succ.inj hl) (by rw [List.length_set]; exact hi) h
  | .sh :: ks, os, δ, n, nd, hl, hi, h => by
    cases n with
    | zero => cases h
    | succ n =>
      obtain ⟨o, e1, e2⟩ := putIo_spec (ks := ks) (os := os) (δ := δ) (n := n) nd hl hi h
      exact ⟨o, by cases os <;> exact e1, by cases os <;> exact e2⟩
  | .bo :: ks, os, δ, n, nd, hl, hi, h => by
    cases n with
    | zero => cases h
    | succ n =>
      obtain ⟨o, e1, e2⟩ := putIo_spec (ks := ks) (os := os) (δ := δ) (n := n) nd hl hi h
      exact ⟨o, by cases os <;> exact e1, by cases os <;> exact e2⟩
  | .rd _ :: ks, os, δ, n, nd, hl, hi, h => by
    cases n with
    | zero => cases h
    | succ n =>
      obtain ⟨o, e1, e2⟩ := putIo_spec (ks := ks) (os := os) (δ := δ) (n := n) nd hl hi h
      exact ⟨o, by cases os <;> exact e1, by cases os <;> exact e2⟩
/-! ### lending -/
def LentF (Γ : CM) (H : Hp) (σ : L2.St) (δ : Env) (ks : List AK) (p : Addr) : Prop := ∃ i d a, AK.io i ∈ ks ∧ δ[i]? = some (some d) ∧ σ[i]? = some (some (.ref a)) ∧ p ∈ foot Γ H a d
open Classical in
noncomputable def lentH (Γ : CM) (H : Hp) (σ : L2.St) (δ : Env) (ks : List AK) : Hp := fun b => if LentF Γ H σ δ ks b then none else H b
structure OkAK (M : List Mode) (ks : List AK) : Prop where
  io : ∀ i, AK.io i ∈ ks → md M i = .ow
  rd : ∀ i, AK.rd i ∈ ks → md M i = .ow ∧ AK.io i ∉ ks
  nd : (ioIx ks).Nodup
def okAKb (M : List Mode) (ks : List AK) : Bool := ks.all (fun k => match k with | .io i => decide (md M i = .ow) | .rd i => decide (md M i = .ow) && !ks.contains (.io i) | _ => true) && decide (ioIx ks).Nodup
theorem OkAK.of (h : okAKb M ks = true) : OkAK M ks := by
  unfold okAKb at h
  rw [Bool.and_eq_true, List.all_eq_true] at h
  refine ⟨fun i q => by simpa using h.1 _ q, fun i q => ?_, by simpa using h.2⟩
  have := h.1 _ q
  simpa using this
theorem md_map {n : Nat} {k : AK} (h : ks[n]? = some k) : md (ks.map AK.m) n = k.m := by
  unfold md
  rw [List.getD_eq_getElem?_getD, List.getElem?_map, h]; rfl
theorem lent_out {p : Addr} (h : ¬ LentF Γ H σ δ ks p) : lentH Γ H σ δ ks p = H p := if_neg h
theorem lent_sub {p : Addr} {o : HO} (h : lentH Γ H σ δ ks p = some o) : H p = some o ∧ ¬ LentF Γ H σ δ ks p := by
  unfold lentH at h
  split at h
  · cases h
  · rename_i q; exact ⟨h, q⟩
theorem Wd.enter (w : Wd K Γ S0 H0 S H σ M δ) (ok : OkAK M ks) (r : MArgs K Γ H0 S H σ δ ks ds vs) : Wd K Γ S (lentH Γ H σ δ ks) S H (vs.map some) (ks.map AK.m) (ds.map some) := by
  have inv : ∀ n d, (ds.map some)[n]? = some (some d) → ∃ k v, ks[n]? = some k ∧ vs[n]? = some v ∧ MArg K Γ H0 S H σ δ k d v := fun n d h => by
    rw [List.getElem?_map] at h
    cases q : ds[n]? with
    | none => rw [q] at h; cases h
    | some d' =>
      rw [q] at h; cases h
      have hn : n < ks.length := by rw [← r.len.1]; exact (List.getElem?_eq_some_iff.mp q).1
      obtain ⟨d2, v, e1, e2, m⟩ := r.at (List.getElem?_eq_getElem hn)
      rw [q] at e1; cases e1
      exact ⟨_, v, List.getElem?_eq_getElem hn, e2, m⟩
  have ioin : ∀ n d a, (ds.map some)[n]? = some (some d) → md (ks.map AK.m) n = .ow → (vs.map some)[n]? = some (some (.ref a)) → ∃ i, ks[n]? = some (.io i) ∧ δ[i]? = some (some d) ∧ σ[i]? = some (some (.ref a)) := fun n d a h m s => by
    obtain ⟨k, v, e1, e2, q⟩ := inv n d h
    rw [md_map e1] at m
    rw [List.getElem?_map, e2] at s
    cases s
    cases k with
    | io i => exact ⟨i, e1, q.1, q.2⟩
    | _ => cases m
  refine ⟨⟨Same.refl _, fun p o e => (lent_sub e).1, w.sH, fun _ _ _ _ n => n⟩, by rw [List.length_map, List.length_map, r.len.1, r.len.2], fun n d h => ?_, fun n d a h m s p hp => ?_, fun n n' d d' a a' p h h' m m' s s' hp hp' => ?_, fun n z => ?_⟩
  · obtain ⟨k, v, e1, e2, q⟩ := inv n d h
    refine ⟨v, by rw [List.getElem?_map, e2]; rfl, ?_⟩
    rw [md_map e1]
    have hk : k ∈ ks := List.mem_of_getElem? e1
    cases k with
    | sh => exact q
    | bo =>
      rcases q with q | ⟨a, ev, t⟩
      · exact .inl q
      · refine .inr ⟨a, ev, (t.same (Same.refl _) fun p hp o e => ?_).1⟩
        rw [lent_out]
        · exact w.h0 p o e
        · rintro ⟨i, d', a', hi, h1, h2, z⟩
          rw [w.own i d' a' h1 (ok.io i hi) h2 p z] at e; cases e
    | io i =>
      obtain ⟨h1, h2⟩ := q
      obtain ⟨a, h3, n', t⟩ := w.owned (ok.io i hk) h1
      rw [h2] at h3; cases h3
      exact ⟨a, rfl, n', t⟩
    | rd i =>
      obtain ⟨h1, h2⟩ := q
      obtain ⟨a, h3, n', t⟩ := w.owned (ok.rd i hk).1 h1
      rw [h2] at h3; cases h3
      refine .inr ⟨a, rfl, (t.same (Same.refl _) fun p hp o e => ?_).1⟩
      rw [lent_out]
      · exact e
      · rintro ⟨i', d', a', hi, h4, h5, z⟩
        have := w.uniq i i' d d' a a' p h1 h4 (ok.rd i hk).1 (ok.io i' hi) h2 h5 hp z
        subst this
        exact (ok.rd i hk).2 hi
  · obtain ⟨i, e1, h1, h2⟩ := ioin n d a h m s
    exact if_pos ⟨i, d, a, List.mem_of_getElem? e1, h1, h2, hp⟩
  · obtain ⟨i, e1, h1, h2⟩ := ioin n d a h m s
    obtain ⟨j, e1', h1', h2'⟩ := ioin n' d' a' h' m' s'
    have := w.uniq i j d d' a a' p h1 h1' (ok.io i (List.mem_of_getElem? e1)) (ok.io j (List.mem_of_getElem? e1')) h2 h2' hp hp'
    subst this
    exact ioIx_pos (n := n) (n' := n') ok.nd e1 e1'
  · unfold md at z
    rw [List.getD_eq_getElem?_getD, List.getElem?_map] at z
    cases q : ks[n]? with
    | none => rw [q] at z; cases z
    | some k => rw [q] at z; cases k <;> cases z
theorem Wd.leave {S2 H2 : Hp} (w : Wd K Γ S0 H0 S H σ M δ) (ok : OkAK M ks) (r : MArgs K Γ H0 S H σ δ ks ds vs) (w2 : Wd K Γ S (lentH Γ H σ δ ks) S2 H2 (vs.map some) (ks.map AK.m) (spread (ks.map AK.m) outs)) (hl : outs.length = (ioIx ks).length) :
    Wd K Γ S0 H0 S2 H2 σ M (putIo ks outs δ) := by
  -- where an owned slot stands, and what comes back there
  have pos : ∀ i, i ∈ ioIx ks → ∃ n d a o, ks[n]? = some (.io i) ∧ δ[i]? = some (some d) ∧ σ[i]? = some (some (.ref a)) ∧ (vs.map some)[n]? = some (some (.ref a)) ∧ (spread (ks.map AK.m) outs)[n]? = some (some o) ∧ (putIo ks outs δ)[i]? = some (some o) ∧ md (ks.map AK.m) n = .ow := fun i hi => by
    have hi' := mem_ioIx.mp hi
    obtain ⟨n, hn⟩ := List.getElem?_of_mem hi'
    obtain ⟨d, v, e1, e2, h1, h2⟩ := r.at hn
    obtain ⟨a, h3, _, _⟩ := w.owned (ok.io i hi') h1
    rw [h2] at h3; cases h3
    obtain ⟨o, q1, q2⟩ := putIo_spec (δ := δ) ok.nd hl (List.getElem?_eq_some_iff.mp h1).1 hn
    exact ⟨n, d, a, o, hn, h1, h2, by rw [List.getElem?_map, e2]; rfl, q1, q2, md_map hn⟩
  refine w.change (I := fun i => i ∈ ioIx ks) w2.ext.ss w2.ext.sh (fun i hi => ok.io i (mem_ioIx.mp hi)) (fun p o e z => ?_) (fun p o e t n z => ?_) putIo_len (fun j hj => putIo_other hj) (fun i d' hi h => ?_) (fun i d' a hi h s p hp => ?_) (fun i j di dj a b p hi hj h1 h2 s1 s2 p1 p2 => ?_)
  · refine w2.ext.hh p o ?_
    rw [lent_out]
    · exact e
    · rintro ⟨i, d, a, hi, h1, h2, h3⟩
      exact z i d a (mem_ioIx.mpr hi) h1 h2 h3
  · refine w2.ext.fr p o ?_ t n
    rw [lent_out]
    · exact e
    · rintro ⟨i, d, a, hi, h1, h2, h3⟩
      exact z i d a (mem_ioIx.mpr hi) h1 h2 h3
  · obtain ⟨n, d, a, o, e1, h1, h2, h3, h4, h5, h6⟩ := pos i hi
    rw [h5] at h; cases h
    obtain ⟨q1, q2⟩ := w2.top h6 h4 h3
    exact ⟨a, h2, ⟨d, h1⟩, q2, q1⟩
  · obtain ⟨n, d, a', o, e1, h1, h2, h3, h4, h5, h6⟩ := pos i hi
    rw [h5] at h; cases h
    rw [h2] at s; cases s
    have q := w2.own n _ _ h4 h6 h3 p hp
    unfold lentH at q
    split at q
    · rename_i z
      obtain ⟨j, dj, b, hj, z1, z2, z3⟩ := z
      exact .inl ⟨j, dj, b, mem_ioIx.mpr hj, z1, z2, z3⟩
    · exact .inr q
  · obtain ⟨n, d, a', o, e1, h1', h2', h3, h4, h5, h6⟩ := pos i hi
    obtain ⟨n2, d2, a2, o2, e12, h12, h22, h32, h42, h52, h62⟩ := pos j hj
    rw [h5] at h1; cases h1
    rw [h2'] at s1; cases s1
    rw [h52] at h2; cases h2
    rw [h22] at s2; cases s2
    have := w2.uniq n n2 _ _ _ _ p h4 h42 h6 h62 h3 h32 p1 p2
    subst this
    rw [e1] at e12; cases e12; rfl
/-! ### the callee's side -/
def owPos : List Mode → Nat → List Nat
  | [], _ => []
  | .ow :: ms, k => k :: owPos ms (k + 1)
  | _ :: ms, k => owPos ms (k + 1)
def pmOk (pm : List Mode) : Bool := pm.all fun m => m == .sh || m == .bo || m == .ow
theorem spread_len : ∀ {ms : List Mode} {os : List D}, (spread ms os).length = ms.length
  | [], _ => rfl
  | .ow :: ms, [] => congrArg (· + 1) (spread_len (ms := ms))
  | .ow :: ms, o :: os => congrArg (· + 1) (spread_len (ms := ms))
  | .sh :: ms, os => by cases os <;> exact congrArg (· + 1) (spread_len (ms := ms))
  | .bo :: ms, os => by cases os <;> exact congrArg (· + 1) (spread_len (ms := ms))
  | .rd :: ms, os => by cases os <;> exact congrArg (· + 1) (spread_len (ms := ms))
theorem ioD_len : ∀ {is : List Nat} {δ : Env} {os : List D}, ioD is δ = some os → os.length = is.length
  | [], _, _, h => by cases h; rfl
  | i :: is, δ, os, h => by
    obtain ⟨d, e1, e2⟩ := bind_some h
    cases q : ioD is δ with
    | none => rw [q] at e2; cases e2
    | some o => rw [q] at e2; cases e2; exact congrArg (· + 1) (ioD_len q)
theorem spread_get : ∀ {ms : List Mode} {k : Nat} {os : List D} {δ : Env} {n : Nat} {d : D}, ioD (owPos ms k) δ = some os → (spread ms os)[n]? = some (some d) → ms[n]? = some .ow ∧ vVar (k + n) δ = some d ∧ k + n ∈ owPos ms k
  | [], _, _, _, _, _, _, h => by simp [spread] at h
  | .ow :: ms, k, os, δ, n, d, q, h => by
    obtain ⟨d0, e1, e2⟩ := bind_some (show (vVar k δ).bind (fun d => (ioD (owPos ms (k + 1)) δ).map (d :: ·)) = some os from q)
    cases z : ioD (owPos ms (k + 1)) δ with
    | none => rw [z] at e2; cases e2
    | some o =>
      rw [z] at e2; cases e2
      cases n with
      | zero => cases (show some (some d0) = some (some d) from h); exact ⟨rfl, e1, List.mem_cons_self⟩
      | succ n =>
        obtain ⟨h1, h2, h3⟩ := spread_get (ms := ms) (k := k + 1) (n := n) z h
        have e : k + 1 + n = k + (n + 1) := by omega
        rw [e] at h2 h3
        exact ⟨h1, h2, List.mem_cons_of_mem _ h3⟩
  | .sh :: ms, k, os, δ, n, d, q, h => by
    have h : (none :: spread ms os)[n]? = some (some d) := by cases os <;> exact h
    cases n with
    | zero => cases h
    | succ n =>
      obtain ⟨h1, h2, h3⟩ := spread_get (ms := ms) (k := k + 1) (n := n) q h
      have e : k + 1 + n = k + (n + 1) := by omega
      rw [e] at h2 h3
      exact ⟨h1, h2, h3⟩
  | .bo :: ms, k, os, δ, n, d, q, h => by
    have h : (none :: spread ms os)[n]? = some (some d) := by cases os <;> exact h
    cases n with
    | zero => cases h
    | succ n =>
      obtain ⟨h1, h2, h3⟩ := spread_get (ms := ms) (k := k + 1) (n := n) q h
      have e : k + 1 + n = k + (n + 1) := by omega
      rw [e] at h2 h3
      exact ⟨h1, h2, h3⟩
  | .rd :: ms, k, os, δ, n, d, q, h => by
    have h : (none :: spread ms os)[n]? = some (some d) := by cases os <;> exact h
    cases n with
    | zero => cases h
    | succ n =>
      obtain ⟨h1, h2, h3⟩ := spread_get (ms := ms) (k := k + 1) (n := n) q h
      have e : k + 1 + n = k + (n + 1) := by omega
      rw [e] at h2 h3
      exact ⟨h1, h2, h3⟩
theorem md_init {n i : Nat} (h : i < pm.length) : md (initM n pm) i = md pm i := by
  unfold md initM
  rw [List.getD_eq_getElem?_getD, List.getElem?_append_left h, List.getD_eq_getElem?_getD]
theorem md_init' {n i : Nat} (h : pm.length ≤ i) : md (initM n pm) i = .sh := by
  unfold md initM
  rw [List.getD_eq_getElem?_getD, List.getElem?_append_right h]
  cases q : (List.replicate (n - pm.length) Mode.sh)[i - pm.length]? with
  | none => rfl
  | some m =>
    have := List.mem_of_getElem? q
    rw [List.mem_replicate] at this
    rw [this.2]; rfl
theorem Wd.extend {N : List Str} (w : Wd K Γ S H0 S H (vs.map some) pm (ds.map some)) (hl : pm.length = ds.length) : Wd K Γ S H0 S H (L2.start N vs) (initM N.length pm) (ds.map some ++ List.replicate (N.length - pm.length) none) := by
  have lv : vs.length = ds.length := by have := w.len; rwa [List.length_map, List.length_map] at this
  have low : ∀ i d, (ds.map some ++ List.replicate (N.length - pm.length) none)[i]? = some (some d) → i < pm.length ∧ (ds.map some)[i]? = some (some d) := fun i d h => by
    by_cases hi : i < ds.length
    · rw [List.getElem?_append_left (by rw [List.length_map]; exact hi)] at h
      exact ⟨by omega, h⟩
    · rw [List.getElem?_append_right (by rw [List.length_map]; omega)] at h
      have := List.mem_of_getElem? h
      rw [List.mem_replicate] at this
      cases this.2
  have st : ∀ i, i < pm.length → (L2.start N vs)[i]? = (vs.map some)[i]? := fun i hi => by
    unfold L2.start
    rw [List.getElem?_append_left (by rw [List.length_map]; omega)]
  refine ⟨w.ext, by unfold L2.start; simp [hl, lv], fun i d h => ?_, fun i d a h m s => ?_, fun i j di dj a b p h1 h2 m1 m2 s1 s2 => ?_, fun i z => ?_⟩
  · obtain ⟨hi, h'⟩ := low i d h
    obtain ⟨v, e, r⟩ := w.slot i d h'
    rw [md_init hi]
    exact ⟨v, (st i hi).trans e, r⟩
  · obtain ⟨hi, h'⟩ := low i d h
    rw [md_init hi] at m
    rw [st i hi] at s
    exact w.own i d a h' m s
  · obtain ⟨hi, h1'⟩ := low i di h1
    obtain ⟨hj, h2'⟩ := low j dj h2
    rw [md_init hi] at m1
    rw [md_init hj] at m2
    rw [st i hi] at s1
    rw [st j hj] at s2
    exact w.uniq i j di dj a b p h1' h2' m1 m2 s1 s2
  · by_cases hi : i < pm.length
    · rw [md_init hi] at z; exact w.nord i z
    · rw [md_init' (by omega)] at z; cases z
theorem Wd.restrict {N : List Str} {M' : List Mode} {δ' : Env} {σ' : L2.St} {ws : List Nat} {os : List D} (w : Wd K Γ S H0 S' H' σ' M' δ') (hp : pmOk pm = true) (hv : vs.length = pm.length) (hM : ∀ i ∈ owPos pm 0, md M' i = .ow) (fr : Fr ws (L2.start N vs) σ') (hws : ∀ i ∈ owPos pm 0, i ∉ ws) (ho : ioD (owPos pm 0) δ' = some os) :
    Wd K Γ S H0 S' H' (vs.map some) pm (spread pm os) := by
  have inv : ∀ n d, (spread pm os)[n]? = some (some d) → md pm n = .ow ∧ md M' n = .ow ∧ δ'[n]? = some (some d) ∧ σ'[n]? = (vs.map some)[n]? := fun n d h => by
    obtain ⟨h1, h2, h3⟩ := spread_get (k := 0) ho h
    rw [Nat.zero_add] at h2 h3
    have ln : n < pm.length := (List.getElem?_eq_some_iff.mp h1).1
    refine ⟨by unfold md; rw [List.getD_eq_getElem?_getD, h1]; rfl, hM n h3, vVar_some h2, ?_⟩
    rw [fr.2 n (hws n h3)]
    unfold L2.start
    rw [List.getElem?_append_left (by rw [List.length_map]; omega)]
  refine ⟨w.ext, by rw [List.length_map, spread_len, hv], fun n d h => ?_, fun n d a h m s => ?_, fun n n' d d' a b p h1 h2 m1 m2 s1 s2 => ?_, fun n z => ?_⟩
  · obtain ⟨h1, h2, h3, h4⟩ := inv n d h
    obtain ⟨v, e, r⟩ := w.slot n d h3
    rw [h2] at r
    rw [h1]
    exact ⟨v, h4 ▸ e, r⟩
  · obtain ⟨h1, h2, h3, h4⟩ := inv n d h
    exact w.own n d a h3 h2 (h4.trans s)
  · obtain ⟨h1', h2', h3, h4⟩ := inv n d h1
    obtain ⟨q1, q2, q3, q4⟩ := inv n' d' h2
    exact w.uniq n n' d d' a b p h3 q3 h2' q2 (h4.trans s1) (q4.trans s2)
  · unfold md at z
    rw [List.getD_eq_getElem?_getD] at z
    cases q : pm[n]? with
    | none => rw [q] at z; cases z
    | some m =>
      have := List.all_eq_true.mp hp m (List.mem_of_getElem? q)
      rw [q] at z
      have z : m = .rd := z
      subst z
      cases this
/-! ### the promise -/
def MPost (K : PySem.W.Frag) (Γ : CM) (S H0 : Hp) (pm : List Mode) (rm : Mode) (vs : List V) (Q : VK) (E : XK) : Res → Prop
  | .ok d => ∃ res outs, d = .tup (res :: outs) ∧ ∀ v S' H', Wd K Γ S H0 S' H' (vs.map some) pm (spread pm outs) → RepM K Γ H0 S' H' rm res v → (rm = .ow → Fresh Γ H0 H' v res) → Q v H'
  | .ex c fs => ∃ fs' outs, fs = (("<io>" : Str), D.tup outs) :: fs' ∧ ∀ cls dd S' H', Wd K Γ S H0 S' H' (vs.map some) pm (spread pm outs) → RepX K Γ S' H' c fs' cls dd → E cls dd H'
def spMR (K : PySem.W.Frag) (Γ : CM) (pm : List Mode) (rm : Mode) (den : List D → Option Res) : Sp := fun vs H Q E =>
  ∃ S H0 ds r, pm.length = ds.length ∧ Wd K Γ S H0 S H (vs.map some) pm (ds.map some) ∧ den ds = some r ∧ MPost K Γ S H0 pm rm vs Q E r
@[reducible] def spM (K : PySem.W.Frag) (Γ : CM) (pm : List Mode) (den : List D → Option Res) : Sp := spMR K Γ pm .sh den
/-- a def that hands slots back -/
def denMX (n np : Nat) (io : List Nat) (s : Sv) : List D → Option Res := fun ds => if ds.length = np then (s (ds.map some ++ List.replicate (n - np) none)).bind fun o => match o with
  | .rt d => some (.ok d)
  | .nx δ => (pkR io .non δ).map .ok
  | .ex c fs => some (.ex c fs)
  else none
def denMN (n np : Nat) (io : List Nat) (s : Sv) : List D → Option Res := fun ds => if ds.length = np then (s (ds.map some ++ List.replicate (n - np) none)).bind fun o => match o with
  | .rt d => some (.ok d)
  | .nx δ => (pkR io .non δ).map .ok
  | .ex _ _ => none
  else none
end
section
variable {P : Program} {w : World} {K : PySem.W.Frag} {mg : Str → Option Value} {base : Heap} {Γ : CM}
theorem pkR_some {io : List Nat} {r d : D} {δ : Env} (h : pkR io r δ = some d) : ∃ outs, ioD io δ = some outs ∧ d = .tup (r :: outs) := by
  unfold pkR at h
  cases q : ioD io δ with
  | none => rw [q] at h; cases h
  | some o => rw [q] at h; cases h; exact ⟨o, rfl, rfl⟩
theorem pkX_some {io : List Nat} {fs' fs : List (Str × D)} {δ : Env} (h : pkX io fs' δ = some fs) : ∃ outs, ioD io δ = some outs ∧ fs = (("<io>" : Str), D.tup outs) :: fs' := by
  unfold pkX at h
  cases q : ioD io δ with
  | none => rw [q] at h; cases h
  | some o => rw [q] at h; cases h; exact ⟨o, rfl, rfl⟩
/-- how a suite's end keeps the promise -/
theorem fin_M {rm : Mode} {N : List Str} {pm : List Mode} {i0 : Nat} {is : List Nat} {S1 H0 : Hp} {vs : List V} {Q : VK} {E : XK} {r : Res} {o : Out} {M' : List Mode} {ws : List Nat} {xo : List Nat} {W : WX} (hp : pmOk pm = true) (hv : vs.length = pm.length) (hio : owPos pm 0 = i0 :: is) (hM : ∀ i ∈ owPos pm 0, md M' i = .ow) (hws : ∀ i ∈ owPos pm 0, i ∉ ws)
    (e2 : (match o with | .rt d => some (.ok d) | .nx δ => (pkR (i0 :: is) .non δ).map .ok | .ex c fs => some (.ex c fs) : Option Res) = some r) (kk : MPost K Γ S1 H0 pm rm vs Q E r) (hnx : ∀ δ, o = .nx δ → rm = .sh) (hE : ∀ c fs, o = .ex c fs → xo = i0 :: is ∧ W = fun cls d _ H' => E cls d H') :
    Fin K Γ S1 H0 S1 W ⟨rm, i0 :: is, xo⟩ M' ws (L2.start N vs) o { nx := fun _ H' => Q .non H', rt := Q } := by
  cases o with
  | nx δ =>
    have e2 : (pkR (i0 :: is) .non δ).map Res.ok = some r := e2
    cases q : pkR (i0 :: is) .non δ with
    | none => rw [q] at e2; cases e2
    | some d =>
      rw [q] at e2; cases e2
      obtain ⟨outs, q1, rfl⟩ := pkR_some q
      obtain ⟨res, outs', e, k⟩ := kk
      cases e
      have er := hnx δ rfl
      subst er
      exact fun S2 H2 σ2 _ w2 f2 => k .non S2 H2 (w2.restrict hp hv hM f2 hws (hio ▸ q1)) rfl fun z => by cases z
  | rt d =>
    cases e2
    intro v S2 H2 σ2 _ _ f2 rt
    obtain ⟨r0, δ, M2, w2, hM2, q, rr, fr⟩ := rt
    obtain ⟨outs, q1, rfl⟩ := pkR_some q
    obtain ⟨res, outs', e, k⟩ := kk
    cases e
    exact k v S2 H2 (w2.restrict hp hv (fun i hi => hM2 i (hio ▸ hi)) f2 hws (hio ▸ q1)) rr fr
  | ex c fs =>
    cases e2
    obtain ⟨hx, hW⟩ := hE c fs rfl
    subst hx hW
    intro cls dd S2 H2 σ2 _ _ f2 rx
    obtain ⟨fs', δ, M2, w2, hM2, q, rr⟩ := rx
    obtain ⟨outs, q1, rfl⟩ := pkX_some q
    obtain ⟨fs2, outs', e, k⟩ := kk
    cases e
    exact k cls dd S2 H2 (w2.restrict hp hv (fun i hi => hM2 i (hio ▸ hi)) f2 hws (hio ▸ q1)) rr
def ioB (io ws : List Nat) : Bool := io.all fun i => !ws.contains i
theorem ioB_of {io ws : List Nat} (h : ioB io ws = true) : ∀ i ∈ io, i ∉ ws := fun i hi z => by
  have := List.all_eq_true.mp h i hi
  simp [z] at this
theorem fn_okM {rm : Mode} {x qual : Str} {st : Stmt} {f : Addr} {fd : FuncData} {N ps : List Str} {k : Nat} {pm : List Mode} {s : Sv} {M' : List Mode} {i0 : Nat} {is : List Nat} (F : Fun K x qual st f fd) (S : FnScope N ps (defScope st)) (hl : pm.length = ps.length) (hp : pmOk pm = true) (hio : owPos pm 0 = i0 :: is) (hM' : ∀ i ∈ i0 :: is, md M' i = .ow) {M0 : List Mode} (hM : initM N.length pm = M0) {n np : Nat} (hn : N.length = n) (hnp : ps.length = np)
    (hbody : ∀ (cdv : Value) (A : Around) (outer : List PySem.Env) (s0 : Shared) (H : Hp) (E : XK), Room k (A.deeper (PyProof.Rows.envOfC qual (defScope st) s0.heap.objs.size f cdv)) →
      ∃ t ws, DSs Γ (cxOf CX0 P w K mg base N qual (defScope st) f cdv A outer s0 H E).nox W0 ⟨rm, i0 :: is, []⟩ M0 (defBody st) t s M' ws ∧ ioB (i0 :: is) ws = true) (hnx : rm = .sh ∨ ∀ δ δ', s δ ≠ some (.nx δ') := by exact .inl rfl) : FnOk P w K mg base CX0 (k + 1) f fd ps (spMR K Γ pm rm (denMN n np (i0 :: is) s)) := by
  subst hM hn hnp
  refine F.ok S (fun vs H Q E h => ?_) (fun cdv A outer s0 H vs Q E hr h => ?_)
  · obtain ⟨S1, H0, ds, r, lp, w1, _⟩ := h
    have := w1.len
    rw [List.length_map, List.length_map] at this
    omega
  · obtain ⟨S1, H0, ds, r, lp, w1, ed, kk⟩ := h
    have lv := w1.len
    rw [List.length_map, List.length_map] at lv
    obtain ⟨t, ws, hb, hws⟩ := hbody cdv A outer s0 H E hr
    refine ⟨t, hb.pss, ?_⟩
    unfold denMN at ed
    rw [if_pos (by omega)] at ed
    obtain ⟨o, e1, e2⟩ := bind_some ed
    rw [← hl] at e1
    refine hb.snd S1 H0 S1 H _ _ _ o (w1.extend lp) e1 (fin_M (E := E) hp (by omega) hio (fun i hi => hM' i (hio ▸ hi)) (fun i hi => ioB_of hws i (hio ▸ hi)) (r := r) ?_ kk (fun δ z => hnx.resolve_right fun y => y _ _ (by rw [e1, z])) fun c fs z => ?_)
    · cases o with
      | ex c fs => cases e2
      | _ => exact e2
    · subst z; cases e2
theorem fn_okMX {x qual : Str} {st : Stmt} {f : Addr} {fd : FuncData} {N ps : List Str} {k : Nat} {pm : List Mode} {s : Sv} {M' : List Mode} {i0 : Nat} {is : List Nat} (F : Fun K x qual st f fd) (S : FnScope N ps (defScope st)) (hl : pm.length = ps.length) (hp : pmOk pm = true) (hio : owPos pm 0 = i0 :: is) (hM' : ∀ i ∈ i0 :: is, md M' i = .ow) {M0 : List Mode} (hM : initM N.length pm = M0) {n np : Nat} (hn : N.length = n) (hnp : ps.length = np)
    (hbody : ∀ (cdv : Value) (A : Around) (outer : List PySem.Env) (s0 : Shared) (H : Hp) (E : XK), Room k (A.deeper (PyProof.Rows.envOfC qual (defScope st) s0.heap.objs.size f cdv)) →
      ∃ t ws, DSs Γ (cxOf (L2.CX P w) P w K mg base N qual (defScope st) f cdv A outer s0 H E) (fun cls d _ H' => E cls d H') ⟨.sh, i0 :: is, i0 :: is⟩ M0 (defBody st) t s M' ws ∧ ioB (i0 :: is) ws = true) : FnOk P w K mg base (L2.CX P w) (k + 1) f fd ps (spM K Γ pm (denMX n np (i0 :: is) s)) := by
  subst hM hn hnp
  refine F.okX S (fun vs H Q E h => ?_) (fun cdv A outer s0 H vs Q E hr h => ?_)
  · obtain ⟨S1, H0, ds, r, lp, w1, _⟩ := h
    have := w1.len
    rw [List.length_map, List.length_map] at this
    omega
  · obtain ⟨S1, H0, ds, r, lp, w1, ed, kk⟩ := h
    have lv := w1.len
    rw [List.length_map, List.length_map] at lv
    obtain ⟨t, ws, hb, hws⟩ := hbody cdv A outer s0 H E hr
    refine ⟨t, hb.pss, ?_⟩
    unfold denMX at ed
    rw [if_pos (by omega)] at ed
    obtain ⟨o, e1, e2⟩ := bind_some ed
    rw [← hl] at e1
    exact hb.snd S1 H0 S1 H _ _ _ o (w1.extend lp) e1 (fin_M (E := E) hp (by omega) hio (fun i hi => hM' i (hio ▸ hi)) (fun i hi => ioB_of hws i (hio ▸ hi)) (r := r) e2 kk (fun _ _ => rfl) fun c fs z => ⟨rfl, rfl⟩)
end
end Dl
set_option maxHeartbeats 1000000
/-! calls that change slots; statements around them. -/
namespace Dl
open PySem L2 PyProof.Rows
def SndAm (K : PySem.W.Frag) (Γ : CM) (M : List Mode) (t : TA) (f : Env → Option (List D)) (ks : List AK) : Prop :=
  ∀ S0 H0 S H σ δ Q ds, Wd K Γ S0 H0 S H σ M δ → f δ = some ds → (∀ vs S' H', Ext S H S' H' → MArgs K Γ H0 S' H' σ δ ks ds vs → Q vs H') → t σ H Q
structure DAm (Γ : CM) (X : Cx) (M : List Mode) (es : List Expr) (t : TA) (f : Env → Option (List D)) (ks : List AK) : Prop where
  pa : PA X es t
  snd : SndAm X.K Γ M t f ks
/-- an argument: shared; borrowed -/
def okK : Mode → AK → Bool
  | m, .sh => okS m
  | .rd, _ => false
  | _, .bo => true
  | _, _ => false
section
variable {X : Cx} {Γ : CM} {E : WX} {rm : RM} {M M1 M2 : List Mode} {e a b c : Expr} {es : List Expr} {t ta tb : TE} {tc : TT} {tr : TA} {f g h : Ev} {fr : Env → Option (List D)} {m : Mode} {ks : List AK} {pos : Pos} {st : Stmt} {body els : List Stmt} {tS u : TS} {s s' : Sv} {ws wt : List Nat} {K : PySem.W.Frag}
theorem dm_nil : DAm Γ X M [] tNil aNil [] := ⟨pa_nil, fun S0 H0 S H σ δ Q ds w ef k => by cases ef; exact k [] S H (Ext.refl w.sH) ⟨rfl, rfl⟩⟩
theorem am_cons {k : AK} {t : TE} {tr : TA} (ha : ∀ S0 H0 S H σ δ Q d, Wd K Γ S0 H0 S H σ M δ → f δ = some d → (∀ v S' H', Ext S H S' H' → MArg K Γ H0 S' H' σ δ k d v → Q v H') → t σ H Q) (hr : SndAm K Γ M tr fr ks) : SndAm K Γ M (tCons t tr) (aCons f fr) (k :: ks) := fun S0 H0 S H σ δ Q ds w ef q => by
  obtain ⟨d, e1, e2⟩ := bind_some ef
  cases z : fr δ with
  | none => rw [z] at e2; cases e2
  | some dr =>
    rw [z] at e2; cases e2
    exact ha S0 H0 S H σ δ _ d w e1 fun v S1 H1 x1 r1 => hr S0 H0 S1 H1 σ δ _ dr (w.mono x1) z fun vs S2 H2 x2 r2 => q (v :: vs) S2 H2 (x1.trans x2) ⟨d, dr, v, vs, rfl, rfl, r1.mono x2, r2⟩
theorem dm_val {k : AK} (ha : DE Γ X M e t f m) (hr : DAm Γ X M es tr fr ks) (hk : okK m k = true := by rfl) (hs : starEach (e :: es) X.env = (false, eval e X.env) :: starEach es X.env := by rfl) : DAm Γ X M (e :: es) (tCons t tr) (aCons f fr) (k :: ks) :=
  ⟨pa_cons ha.pe hr.pa hs, am_cons (fun S0 H0 S H σ δ Q d w ef q => by
    cases k with
    | sh => exact (ha.snd.sh (show okS m = true by cases m <;> first | rfl | cases hk)) S0 H0 S H σ δ Q d w ef fun v S1 H1 x1 r1 _ => q v S1 H1 x1 r1
    | bo =>
      cases m with
      | sh => exact ha.snd S0 H0 S H σ δ Q d w ef fun v S1 H1 x1 r1 _ => q v S1 H1 x1 (.inl r1)
      | ow => exact ha.snd.share S0 H0 S H σ δ Q d w ef fun v S1 H1 x1 r1 _ => q v S1 H1 x1 (.inl r1)
      | bo => exact ha.snd S0 H0 S H σ δ Q d w ef fun v S1 H1 x1 r1 _ => q v S1 H1 x1 r1
      | rd => cases hk
    | io i => cases m <;> cases hk
    | rd i => cases m <;> cases hk) hr.snd⟩
def isSlot (i : Nat) : AK → Bool
  | .io j => decide (i = j)
  | .rd j => decide (i = j)
  | _ => false
/-- an owned name, lent or read -/
theorem dm_slot {k : AK} {i : Nat} {x : Str} {p : Pos} (hr : DAm Γ X M es tr fr ks) (hk : isSlot i k = true := by rfl) (hN : X.N[i]? = some x := by rfl) (hv : Vis X.env.scope x := by first | exact Or.inl rfl | exact Or.inr (Or.inl rfl) | exact Or.inr (Or.inr rfl)) (hd : (x == ("__debug__" : Str)) = false := by decide) (hcd : (x == ("__classdict__" : Str)) = false := by decide)
    (hs : starEach (.Name x p :: es) X.env = (false, eval (.Name x p) X.env) :: starEach es X.env := by rfl) : DAm Γ X M (.Name x p :: es) (tCons (tVar i) tr) (aCons (vVar i) fr) (k :: ks) :=
  ⟨pa_cons (pe_var hN hv hd hcd) hr.pa hs, am_cons (fun S0 H0 S H σ δ Q d w ef q => by
    have h := vVar_some ef
    obtain ⟨v, hv, _⟩ := w.slot i d h
    refine ⟨v, hv, q v S H (Ext.refl w.sH) ?_⟩
    cases k with
    | io j => cases (show i = j by simpa [isSlot] using hk); exact ⟨h, hv⟩
    | rd j => cases (show i = j by simpa [isSlot] using hk); exact ⟨h, hv⟩
    | sh => cases hk
    | bo => cases hk) hr.snd⟩
/-! ### what changes slots -/
abbrev Fv := Env → Option (Res × Env)
def FinF (K : PySem.W.Frag) (Γ : CM) (S0 H0 S : Hp) (E : WX) (M : List Mode) (σ : L2.St) (Q : VK) : Res × Env → Prop
  | (.ok d, δ') => ∀ v S' H', Same S S' → Wd K Γ S0 H0 S' H' σ M δ' → Rep K Γ S' d v → Q v H'
  | (.ex c fs, δ') => ∀ cls dd S' H', Same S S' → Wd K Γ S0 H0 S' H' σ M δ' → RepX K Γ S' H' c fs cls dd → E cls dd σ H'
def SndF (K : PySem.W.Frag) (Γ : CM) (E : WX) (M : List Mode) (t : TE) (f : Fv) : Prop :=
  ∀ S0 H0 S H σ δ Q r, Wd K Γ S0 H0 S H σ M δ → f δ = some r → FinF K Γ S0 H0 S E M σ Q r → t σ H Q
structure DF (Γ : CM) (X : Cx) (E : WX) (M : List Mode) (e : Expr) (t : TE) (f : Fv) : Prop where
  pe : PE X e t
  snd : SndF X.K Γ E M t f
theorem FinF.ss {S0 H0 S S1 : Hp} {σ : L2.St} {Q : VK} {r : Res × Env} (h : FinF K Γ S0 H0 S E M σ Q r) (ss : Same S S1) : FinF K Γ S0 H0 S1 E M σ Q r := by
  obtain ⟨r, δ⟩ := r
  cases r with
  | ok d => exact fun v S' H' s1 => h v S' H' (ss.trans s1)
  | ex c fs => exact fun cls dd S' H' s1 => h cls dd S' H' (ss.trans s1)
def resF (ks : List AK) (δ : Env) : Res → Option (Res × Env)
  | .ok (.tup (d :: outs)) => if outs.length = (ioIx ks).length then some (.ok d, putIo ks outs δ) else none
  | .ex c ((n, .tup outs) :: fs) => if n = ("<io>" : Str) ∧ outs.length = (ioIx ks).length then some (.ex c fs, putIo ks outs δ) else none
  | _ => none
def fCall (ks : List AK) (den : List D → Option Res) (fr : Env → Option (List D)) : Fv := fun δ => (fr δ).bind fun ds => (den ds).bind fun r => resF ks δ r
theorem call_M {S0 H0 S H : Hp} {σ : L2.St} {δ : Env} {Q : VK} {Ex : XK} {pm : List Mode} {den : List D → Option Res} {ds : List D} {vs : List V} {r : Res} {r' : Res × Env} (ok : OkAK M ks) (hpm : ks.map AK.m = pm) (w : Wd K Γ S0 H0 S H σ M δ) (ra : MArgs K Γ H0 S H σ δ ks ds vs) (e1 : den ds = some r) (e2 : resF ks δ r = some r')
    (k : FinF K Γ S0 H0 S (fun cls dd _ H' => Ex cls dd H') M σ Q r') : spM K Γ pm den vs H Q Ex := by
  subst hpm
  refine ⟨S, lentH Γ H σ δ ks, ds, r, by rw [List.length_map, ra.len.1], w.enter ok ra, e1, ?_⟩
  cases r with
  | ok d =>
    cases d with
    | tup xs =>
      cases xs with
      | nil => cases e2
      | cons d outs =>
        obtain ⟨hl, rfl⟩ := ite_some (show (if outs.length = (ioIx ks).length then some (Res.ok d, putIo ks outs δ) else none) = some r' from e2)
        exact ⟨d, outs, rfl, fun v S' H' w2 rv _ => k v S' H' w2.ext.ss (w.leave ok ra w2 hl) rv⟩
    | _ => cases e2
  | ex c fs =>
    cases fs with
    | nil => cases e2
    | cons nd fs =>
      obtain ⟨n, d⟩ := nd
      cases d with
      | tup outs =>
        obtain ⟨⟨rfl, hl⟩, rfl⟩ := ite_some (show (if n = ("<io>" : Str) ∧ outs.length = (ioIx ks).length then some (Res.ex c fs, putIo ks outs δ) else none) = some r' from e2)
        exact ⟨fs, outs, rfl, fun cls dd S' H' w2 rv => k cls dd S' H' w2.ext.ss (w.leave ok ra w2 hl) rv⟩
      | _ => cases e2
theorem FinF.ext {S0 H0 S : Hp} {σ : L2.St} {Q : VK} {r : Res × Env} (h : FinF K Γ S0 H0 S E M σ Q r) : FinF K Γ S0 H0 S (fun cls dd _ H' => (WE E σ) cls dd H') M σ Q r := by
  obtain ⟨r, δ⟩ := r
  cases r with
  | ok d => exact h
  | ex c fs => exact h
theorem df_callX (K : PySem.W.Frag) {mg : Str → Option Value} {x qual : Str} {st : Stmt} {ps : List Str} {k : Nat} {p : Pos} {pm : List Mode} {den : List D → Option Res} (T : Dfn K mg x qual st ps) (F : FnOk X.prog X.w K mg X.base (L2.CX X.prog X.w) k T.f T.fd ps (spM K Γ pm den)) (hr : Room k X.A) (tk : Takes X E)
    (ha : DAm Γ X M (e :: es) tr fr ks) (hok : okAKb M ks = true := by decide) (hpm : ks.map AK.m = pm := by rfl) (hg : Gl X x := by rfl) (h2 : (x == ("__debug__" : Str)) = false := by decide) (h3 : starEach (e :: es) X.env = (false, eval e X.env) :: starEach es X.env := by rfl) (h4 : (backTo pos (starEach es X.env)).any (·.1) = false := by rfl) (hK : X.K = K := by rfl) (hmg : X.mg = mg := by rfl) :
    DF Γ X E M (.Call (.Name x p) (e :: es) [] pos) (tCallS (spM K Γ pm den) (WE E) tr) (fCall ks den fr) := by
  subst hK hmg
  exact ⟨pe_callS F hr hg T.gl T.fn.kp T.bd (fun σ => passAt tk σ) ha.pa h2 h3 h4, fun S0 H0 S H σ δ Q r w ef q => by
    obtain ⟨ds, e1, e2⟩ := bind_some ef
    obtain ⟨r0, e3, e4⟩ := bind_some e2
    exact ha.snd S0 H0 S H σ δ _ ds w e1 fun vs S1 H1 x1 r1 => call_M (OkAK.of hok) hpm (w.mono x1) r1 e3 e4 (q.ss x1.ss).ext⟩
theorem df_call (K : PySem.W.Frag) {mg : Str → Option Value} {x qual : Str} {st : Stmt} {ps : List Str} {k : Nat} {p : Pos} {pm : List Mode} {n np : Nat} {io : List Nat} {sv : Sv} (T : Dfn K mg x qual st ps) (F : FnOk X.prog X.w K mg X.base CX0 k T.f T.fd ps (spM K Γ pm (denMN n np io sv))) (hr : Room k X.A)
    (ha : DAm Γ X M (e :: es) tr fr ks) (hok : okAKb M ks = true := by decide) (hpm : ks.map AK.m = pm := by rfl) (hg : Gl X x := by rfl) (h2 : (x == ("__debug__" : Str)) = false := by decide) (h3 : starEach (e :: es) X.env = (false, eval e X.env) :: starEach es X.env := by rfl) (h4 : (backTo pos (starEach es X.env)).any (·.1) = false := by rfl) (hK : X.K = K := by rfl) (hmg : X.mg = mg := by rfl) :
    DF Γ X E M (.Call (.Name x p) (e :: es) [] pos) (tCall (spM K Γ pm (denMN n np io sv)) [] E0 tr) (fCall ks (denMN n np io sv) fr) := by
  subst hK hmg
  exact ⟨pe_call F hr hg T.gl T.fn.kp T.bd .nil pass0 ha.pa h2 h3 h4, fun S0 H0 S H σ δ Q r w ef q => by
    obtain ⟨ds, e1, e2⟩ := bind_some ef
    obtain ⟨r0, e3, e4⟩ := bind_some e2
    have nx : ∀ c fs, r0 ≠ .ex c fs := fun c fs z => by
      subst z
      unfold denMN at e3
      split at e3
      · obtain ⟨o, _, z⟩ := bind_some e3
        cases o with
        | nx δ => have z : (pkR io .non δ).map Res.ok = some (.ex c fs) := z; cases q : pkR io .non δ with
          | none => rw [q] at z; cases z
          | some d => rw [q] at z; cases z
        | rt d => cases z
        | ex c' fs' => cases z
      · cases e3
    refine ha.snd S0 H0 S H σ δ _ ds w e1 fun vs S1 H1 x1 r1 => ?_
    show spM X.K Γ pm (denMN n np io sv) (vs ++ []) H1 Q E0
    rw [List.append_nil]
    refine call_M (Ex := E0) (OkAK.of hok) hpm (w.mono x1) r1 e3 e4 ?_
    have q := q.ss x1.ss
    obtain ⟨r, δ'⟩ := r
    cases r with
    | ok d => exact q
    | ex c fs =>
      cases r0 with
      | ex c' fs' => exact (nx _ _ rfl).elim
      | ok d =>
        cases d with
        | tup xs =>
          cases xs with
          | nil => cases e4
          | cons d outs =>
            have e4 : (if outs.length = (ioIx ks).length then some (Res.ok d, putIo ks outs δ) else none) = some (Res.ex c fs, δ') := e4
            split at e4 <;> cases e4
        | _ => cases e4⟩
/-! ### statements around them -/
/-- where something is refused -/
def exO (xo : List Nat) (c : Str) (fs : List (Str × D)) (δ : Env) : Option Out := match xo with
  | [] => some (.ex c fs)
  | xo => (pkX xo fs δ).map (.ex c)
def xoM (M : List Mode) (xo : List Nat) : Bool := xo.all fun i => decide (md M i = .ow)
theorem xoM_of {xo : List Nat} (h : xoM M xo = true) : ∀ i ∈ xo, md M i = .ow := fun i hi => by simpa using List.all_eq_true.mp h i hi
theorem fin_ex {S0 H0 S S' H' : Hp} {σ : L2.St} {δ' : Env} {Dn : Ends} {c : Str} {fs : List (Str × D)} {cls : Value} {dd : Option Addr} {o : Out} (hx : xoM M rm.xo = true) (e : exO rm.xo c fs δ' = some o) (k : Fin K Γ S0 H0 S E rm M1 ws σ o Dn) (ss : Same S S') (w : Wd K Γ S0 H0 S' H' σ M δ') (r : RepX K Γ S' H' c fs cls dd) : E cls dd σ H' := by
  obtain ⟨m0, io, xo⟩ := rm
  cases xo with
  | nil => cases e; exact k cls dd S' H' σ ss w.ext Fr.refl r
  | cons i is =>
    have e : (pkX (i :: is) fs δ').map (Out.ex c) = some o := e
    cases q : pkX (i :: is) fs δ' with
    | none => rw [q] at e; cases e
    | some fs' =>
      rw [q] at e; cases e
      exact k cls dd S' H' σ ss w.ext Fr.refl ⟨fs, δ', M, w, xoM_of hx, q, r⟩
def sF (xo : List Nat) (f : Fv) (s : D → Sv) : Sv := fun δ => (f δ).bind fun r => match r with
  | (.ok d, δ') => s d δ'
  | (.ex c fs, δ') => exO xo c fs δ'
/-- x = e -/
theorem ds_setF {i : Nat} {x : Str} {pos' : Pos} (hN : X.N.Nodup) (he : DF Γ X E M e t f0) (hM : M.set i .sh = M1 := by rfl) (hi : X.N[i]? = some x := by rfl) (hx : Loc X.env.scope x := by first | exact Or.inl rfl | exact Or.inr rfl) (hl : i < M.length := by decide) (hs : swapsWith e (some (.Name x pos')) pos.line X.env = pure false := by rfl) (hf : X.fn x = true ∨ X.env.scope.names.lookup x = some .local := by first | exact .inl rfl | exact .inr rfl | assumption) (hxo : xoM M rm.xo = true := by rfl) :
    DS Γ X E rm M (.Assign [.Name x pos'] e pos) (tAsg t (gName i)) (sF rm.xo f0 fun d δ => some (.nx (δ.set i (some d)))) M1 [i] := ⟨ps_set hN hi hx he.pe hs hf, fun S0 H0 S H σ δ Dn o w ef k => by
  subst hM
  obtain ⟨⟨r, δ'⟩, e1, e2⟩ := bind_some ef
  refine he.snd S0 H0 S H σ δ _ _ w e1 ?_
  cases r with
  | ok d =>
    cases e2
    exact fun v S1 H1 s1 w1 r1 => k S1 H1 (σ.set i (some v)) s1 (w1.store hl (.inl rfl) r1 (fun z => by cases z) fun z => by cases z) Fr.set
  | ex c fs => exact fun cls dd S1 H1 s1 w1 r1 => fin_ex hxo e2 k s1 w1 r1⟩
/-- e -/
theorem ds_exprF (he : DF Γ X E M e t f0) (hs : swapsWith e none pos.line X.env = pure false := by rfl) (hxo : xoM M rm.xo = true := by rfl) : DS Γ X E rm M (.Expr e pos) (tDrop t) (sF rm.xo f0 fun _ δ => some (.nx δ)) M [] := ⟨ps_expr he.pe hs, fun S0 H0 S H σ δ Dn o w ef k => by
  obtain ⟨⟨r, δ'⟩, e1, e2⟩ := bind_some ef
  refine he.snd S0 H0 S H σ δ _ _ w e1 ?_
  cases r with
  | ok d => cases e2; exact fun v S1 H1 s1 w1 r1 => k S1 H1 σ s1 w1 Fr.refl
  | ex c fs => exact fun cls dd S1 H1 s1 w1 r1 => fin_ex hxo e2 k s1 w1 r1⟩
/-- a def's result with what it hands back -/
def rtO (io : List Nat) (d : D) (δ : Env) : Option Out := match io with
  | [] => some (.rt d)
  | io => (pkR io d δ).map .rt
theorem fin_rt {S0 H0 S S' H' : Hp} {σ : L2.St} {δ' : Env} {Dn : Ends} {d : D} {v : V} {o : Out} {io xo : List Nat} (hx : xoM M io = true) (e : rtO io d δ' = some o) (k : Fin K Γ S0 H0 S E ⟨.sh, io, xo⟩ M1 ws σ o Dn) (ss : Same S S') (w : Wd K Γ S0 H0 S' H' σ M δ') (r : Rep K Γ S' d v) : Dn.rt v H' := by
  cases io with
  | nil => cases e; exact k v S' H' σ ss w.ext Fr.refl ⟨r, fun z => by cases z⟩
  | cons i is =>
    have e : (pkR (i :: is) d δ').map Out.rt = some o := e
    cases q : pkR (i :: is) d δ' with
    | none => rw [q] at e; cases e
    | some d' =>
      rw [q] at e; cases e
      exact k v S' H' σ ss w.ext Fr.refl ⟨d, δ', M, w, xoM_of hx, q, r, fun z => by cases z⟩
theorem ds_retF {io xo : List Nat} (he : DF Γ X E M e t f0) (hio : xoM M io = true := by rfl) (hxo : xoM M xo = true := by rfl) : DS Γ X E ⟨.sh, io, xo⟩ M (.Return (some e) pos) (tRet t) (sF xo f0 (rtO io)) M1 [] := ⟨ps_ret he.pe, fun S0 H0 S H σ δ Dn o w ef k => by
  obtain ⟨⟨r, δ'⟩, e1, e2⟩ := bind_some ef
  refine he.snd S0 H0 S H σ δ _ _ w e1 ?_
  cases r with
  | ok d => exact fun v S1 H1 s1 w1 r1 => fin_rt hio e2 k s1 w1 r1
  | ex c fs => exact fun cls dd S1 H1 s1 w1 r1 => fin_ex (rm := ⟨.sh, io, xo⟩) hxo e2 k s1 w1 r1⟩
/-- return e, with slots handed back -/
def sRetI (io : List Nat) (f : Ev) : Sv := fun δ => (f δ).bind fun d => rtO io d δ
theorem ds_retI {io xo : List Nat} (he : DE Γ X M e t f m) (hm : okS m = true := by rfl) (hio : xoM M io = true := by rfl) : DS Γ X E ⟨.sh, io, xo⟩ M (.Return (some e) pos) (tRet t) (sRetI io f) M1 [] := ⟨ps_ret he.pe, fun S0 H0 S H σ δ Dn o w ef k => by
  obtain ⟨d, e1, e2⟩ := bind_some ef
  exact (he.snd.sh hm) S0 H0 S H σ δ _ d w e1 fun v S1 H1 x1 r1 _ => fin_rt hio e2 k x1.ss (w.mono x1) r1⟩
/-- .. a new one -/
theorem ds_retIO {i : Nat} {is xo : List Nat} (he : DE Γ X M e t f .ow) (hio : xoM M (i :: is) = true := by rfl) : DS Γ X E ⟨.ow, i :: is, xo⟩ M (.Return (some e) pos) (tRet t) (sRetI (i :: is) f) M1 [] := ⟨ps_ret he.pe, fun S0 H0 S H σ δ Dn o w ef k => by
  obtain ⟨d, e1, e2⟩ := bind_some ef
  refine he.snd S0 H0 S H σ δ _ d w e1 fun v S1 H1 x1 r1 fr => ?_
  have e2 : (pkR (i :: is) d δ).map Out.rt = some o := e2
  cases q : pkR (i :: is) d δ with
  | none => rw [q] at e2; cases e2
  | some d' =>
    rw [q] at e2; cases e2
    exact k v S1 H1 σ x1.ss (w.mono x1).ext Fr.refl ⟨d, δ, M, w.mono x1, xoM_of hio, q, r1, fun z a ev p hp => w.ext.hh.free (fr z a ev p hp)⟩⟩
def sRetNI (io : List Nat) : Sv := fun δ => rtO io .non δ
theorem ds_retNI {io xo : List Nat} (hio : xoM M io = true := by rfl) : DS Γ X E ⟨.sh, io, xo⟩ M (.Return none pos) tRetN (sRetNI io) M1 [] := ⟨ps_retN, fun S0 H0 S H σ δ Dn o w ef k => fin_rt hio ef k (Same.refl _) w rfl⟩
/-- raise -/
def sRaiseI (xo : List Nat) (c : Str) : Sv := fun δ => exO xo c [] δ
theorem ds_raiseI {x msg : Str} {C : Addr} {j : Nat} {p p2 pos' : Pos} (T : ExcF X.K X.mg x C) (hΓ : Γ x = some C) (tk : Takes X E) (hc : X.calm = true := by rfl) (hg : Gl X x := by rfl) (hdb : (x == ("__debug__" : Str)) = false := by decide) (hxo : xoM M rm.xo = true := by rfl) :
    DS Γ X E rm M (.Raise (some (.Call (.Name x p) [.Constant (.str msg) j p2] [] pos')) none pos) (fun _ σ H => E (.ref C) none σ H) (sRaiseI rm.xo x) M1 [] :=
  ⟨ps_raise hc tk (pmk_own PySem.F.excBase_ValueError T.ex T.gl T.kp (raises_own T.bs T.ty) hg hdb), fun S0 H0 S H σ δ Dn o w ef k =>
    fin_ex hxo ef k (Same.refl _) w ⟨C, hΓ, rfl, .inl ⟨rfl, rfl⟩⟩⟩
/-- a statement around an expression that may be refused -/
def sXI (xo : List Nat) (f : Xv) (s : Sv) : Sv := fun δ => (f δ).bind fun r => match r with | .ok _ => s δ | .ex c fs => exO xo c fs δ
theorem DS.xI {f : Xv} (hx : DX Γ X E M e t f m) (h : DS Γ X E rm M st tS s M1 ws) (hB : ∀ Dn σ H, (∀ Q, t σ H Q) → tS Dn σ H := by exact fun _ _ _ h => h _) (hxo : xoM M rm.xo = true := by rfl) : DS Γ X E rm M st tS (sXI rm.xo f s) M1 ws := ⟨h.ps, fun S0 H0 S H σ δ Dn o w ef k => by
  obtain ⟨r, e1, e2⟩ := bind_some ef
  cases r with
  | ok d => exact h.snd S0 H0 S H σ δ Dn o w e2 k
  | ex c fs =>
    refine hB Dn σ H fun Q => hx.snd S0 H0 S H σ δ Q _ w e1 fun cls dd S' H' x r => ?_
    have w' := w.mono x
    exact fin_ex hxo e2 (k.up (wt := ws) fun _ h => h) x.ss w' r⟩
/-! ### tests -/
inductive Tr where
  | ok (b : Bool) | ex (c : Str) (fs : List (Str × D))
abbrev Tv := Env → Option (Tr × Env)
def FinT (K : PySem.W.Frag) (Γ : CM) (S0 H0 S : Hp) (E : WX) (M : List Mode) (σ : L2.St) (Q : Bool → Hp → Prop) : Tr × Env → Prop
  | (.ok b, δ') => ∀ S' H', Same S S' → Wd K Γ S0 H0 S' H' σ M δ' → Q b H'
  | (.ex c fs, δ') => ∀ cls dd S' H', Same S S' → Wd K Γ S0 H0 S' H' σ M δ' → RepX K Γ S' H' c fs cls dd → E cls dd σ H'
def SndTF (K : PySem.W.Frag) (Γ : CM) (E : WX) (M : List Mode) (t : TT) (f : Tv) : Prop :=
  ∀ S0 H0 S H σ δ Q r, Wd K Γ S0 H0 S H σ M δ → f δ = some r → FinT K Γ S0 H0 S E M σ Q r → t σ H Q
structure DTF (Γ : CM) (X : Cx) (E : WX) (M : List Mode) (e : Expr) (t : TT) (f : Tv) : Prop where
  pt : PT X e t
  snd : SndTF X.K Γ E M t f
structure DWF (Γ : CM) (X : Cx) (E : WX) (M : List Mode) (e : Expr) (t : TT) (f : Tv) : Prop where
  pw : PW X e t
  snd : SndTF X.K Γ E M t f
theorem DWF.dt {t : TT} {f : Tv} (h : DWF Γ X E M e t f) : DTF Γ X E M e t f := ⟨h.pw.pt, h.snd⟩
theorem FinT.ss {S0 H0 S S1 : Hp} {σ : L2.St} {Q : Bool → Hp → Prop} {r : Tr × Env} (h : FinT K Γ S0 H0 S E M σ Q r) (ss : Same S S1) : FinT K Γ S0 H0 S1 E M σ Q r := by
  obtain ⟨r, δ⟩ := r
  cases r with
  | ok d => exact fun S' H' s1 => h S' H' (ss.trans s1)
  | ex c fs => exact fun cls dd S' H' s1 => h cls dd S' H' (ss.trans s1)
/-- a value that is a truth -/
def fTst (f : Fv) : Tv := fun δ => (f δ).bind fun r => match r with
  | (.ok (.bl b), δ') => some (.ok b, δ')
  | (.ex c fs, δ') => some (.ex c fs, δ')
  | _ => none
theorem dtf_val {f : Fv} (he : DF Γ X E M e t f) (hs : ∀ whole, isTrue e X.env whole = (do let v ← whole; standAt e.pos; holding [v] (truthy v)) := by intro _; rfl) : DTF Γ X E M e (tB t) (fTst f) := ⟨pt_val he.pe hs, fun S0 H0 S H σ δ Q r w ef k => by
  obtain ⟨⟨r0, δ'⟩, e1, e2⟩ := bind_some ef
  refine he.snd S0 H0 S H σ δ _ _ w e1 ?_
  cases r0 with
  | ok d =>
    cases d with
    | bl b => cases e2; exact fun v S' H' s1 w1 rv => ⟨b, rv, k S' H' s1 w1⟩
    | _ => cases e2
  | ex c fs => cases e2; exact k⟩
def fNot (f : Tv) : Tv := fun δ => (f δ).map fun r => match r with
  | (.ok b, δ') => (.ok (!b), δ')
  | r => r
theorem dtf_not {t : TT} {f : Tv} (h : DTF Γ X E M e t f) : DTF Γ X E M (.UnaryOp .Not e pos) (tNot t) (fNot f) := ⟨pt_not h.pt, fun S0 H0 S H σ δ Q r w ef k => by
  unfold fNot at ef
  cases z : f δ with
  | none => rw [z] at ef; cases ef
  | some q =>
    obtain ⟨r0, δ'⟩ := q
    rw [z] at ef
    refine h.snd S0 H0 S H σ δ _ _ w z ?_
    cases r0 with
    | ok b => cases ef; exact fun S' H' s1 w1 => k S' H' s1 w1
    | ex c fs => cases ef; exact k⟩
/-- one that changes nothing -/
def fPure (p : Env → Option Bool) : Tv := fun δ => (p δ).map fun b => (.ok b, δ)
theorem dtf_pure {t : TT} {p : Env → Option Bool} (h : DT Γ X M e t p) : DTF Γ X E M e t (fPure p) := ⟨h.pt, fun S0 H0 S H σ δ Q r w ef k => by
  unfold fPure at ef
  cases z : p δ with
  | none => rw [z] at ef; cases ef
  | some b => rw [z] at ef; cases ef; exact h.snd S0 H0 S H σ δ _ b w z fun S' H' x => k S' H' x.ss (w.mono x)⟩
def fAnd (f g : Tv) : Tv := fun δ => (f δ).bind fun r => match r with
  | (.ok b, δ') => if b = true then g δ' else some (.ok false, δ')
  | r => some r
def fOr (f g : Tv) : Tv := fun δ => (f δ).bind fun r => match r with
  | (.ok b, δ') => if b = true then some (.ok true, δ') else g δ'
  | r => some r
theorem snd_andF {t u : TT} {f g : Tv} (h : SndTF K Γ E M t f) (h2 : SndTF K Γ E M u g) : SndTF K Γ E M (tAnd t u) (fAnd f g) := fun S0 H0 S H σ δ Q r w ef k => by
  obtain ⟨⟨r0, δ'⟩, e1, e2⟩ := bind_some ef
  refine h S0 H0 S H σ δ _ _ w e1 ?_
  cases r0 with
  | ok b =>
    cases b with
    | true =>
      have e2 : g δ' = some r := e2
      exact fun S' H' s1 w1 => by dsimp only; rw [if_pos rfl]; exact h2 S0 H0 S' H' σ δ' Q r w1 e2 (k.ss s1)
    | false => cases e2; exact fun S' H' s1 w1 => by dsimp only; rw [if_neg Bool.false_ne_true]; exact k S' H' s1 w1
  | ex c fs => cases e2; exact k
theorem snd_orF {t u : TT} {f g : Tv} (h : SndTF K Γ E M t f) (h2 : SndTF K Γ E M u g) : SndTF K Γ E M (tOr t u) (fOr f g) := fun S0 H0 S H σ δ Q r w ef k => by
  obtain ⟨⟨r0, δ'⟩, e1, e2⟩ := bind_some ef
  refine h S0 H0 S H σ δ _ _ w e1 ?_
  cases r0 with
  | ok b =>
    cases b with
    | true => cases e2; exact fun S' H' s1 w1 => by dsimp only; rw [if_pos rfl]; exact k S' H' s1 w1
    | false =>
      have e2 : g δ' = some r := e2
      exact fun S' H' s1 w1 => by dsimp only; rw [if_neg Bool.false_ne_true]; exact h2 S0 H0 S' H' σ δ' Q r w1 e2 (k.ss s1)
  | ex c fs => cases e2; exact k
theorem dwf_and1 {t : TT} {f : Tv} (h : DTF Γ X E M a t f) : DWF Γ X E M (.BoolOp .And [a] pos) t f := ⟨pw_and1 h.pt, h.snd⟩
theorem dwf_or1 {t : TT} {f : Tv} (h : DTF Γ X E M a t f) : DWF Γ X E M (.BoolOp .Or [a] pos) t f := ⟨pw_or1 h.pt, h.snd⟩
theorem dwf_and {t u : TT} {f g : Tv} {rest : List Expr} (h : DTF Γ X E M a t f) (h2 : DWF Γ X E M (.BoolOp .And (b :: rest) pos) u g) : DWF Γ X E M (.BoolOp .And (a :: b :: rest) pos) (tAnd t u) (fAnd f g) := ⟨pw_and h.pt h2.pw, snd_andF h.snd h2.snd⟩
theorem dwf_or {t u : TT} {f g : Tv} {rest : List Expr} (h : DTF Γ X E M a t f) (h2 : DWF Γ X E M (.BoolOp .Or (b :: rest) pos) u g) : DWF Γ X E M (.BoolOp .Or (a :: b :: rest) pos) (tOr t u) (fOr f g) := ⟨pw_or h.pt h2.pw, snd_orF h.snd h2.snd⟩
/-- a comparison: what changes slots first -/
def fOp1 (op : D → D → Option D) (f : Fv) (g : Ev) : Fv := fun δ => (f δ).bind fun r => match r with
  | (.ok a, δ') => (g δ').bind fun b => (op a b).map fun d => (.ok d, δ')
  | r => some r
theorem df_cmp1 {op : CmpOp} {r : R2} {o : D → D → Option D} {f : Fv} {g : Ev} {mb : Mode} (ho : OpD Γ X (compareOp op) r o .sh) (ha : DF Γ X E M a ta f) (hb : DE Γ X M b tb g mb) (hm : behindInMarks op b = false := by first | exact nomark _ | rfl) : DF Γ X E M (.Compare a [op] [b] pos) (tOp r ta tb) (fOp1 o f g) :=
  ⟨pe_cmpR ho.op ha.pe hb.pe hm, fun S0 H0 S H σ δ Q r w ef k => by
    obtain ⟨⟨r0, δ'⟩, e1, e2⟩ := bind_some ef
    refine ha.snd S0 H0 S H σ δ _ _ w e1 ?_
    cases r0 with
    | ok d =>
      obtain ⟨b, e3, e4⟩ := bind_some e2
      cases z : o d b with
      | none => rw [z] at e4; cases e4
      | some y =>
        rw [z] at e4; cases e4
        intro v S1 H1 s1 w1 rv
        refine hb.snd S0 H0 S1 H1 σ δ' _ b w1 e3 fun u S2 H2 x2 r2 _ => ?_
        refine ho.snd H0 S2 H2 .sh mb d b y v u Q x2.sh (w1.mono x2).h0 (show RepM X.K Γ H0 S2 H2 .sh d v from Rep.mono x2.ss rv) r2 z fun v3 S3 H3 x3 r3 _ => ?_
        exact k v3 S3 H3 ((s1.trans x2.ss).trans x3.ss) ((w1.mono x2).mono x3) r3
    | ex c fs => cases e2; exact k⟩
/-- .. behind what changes none -/
def fOp2 (op : D → D → Option D) (f : Ev) (g : Fv) : Fv := fun δ => (f δ).bind fun a => (g δ).bind fun r => match r with
  | (.ok b, δ') => (op a b).map fun d => (.ok d, δ')
  | r => some r
theorem df_cmp2 {op : CmpOp} {r : R2} {o : D → D → Option D} {f : Ev} {g : Fv} {ma : Mode} (ho : OpD Γ X (compareOp op) r o .sh) (ha : DE Γ X M a ta f ma) (hb : DF Γ X E M b tb g) (hma : okS ma = true := by rfl) (hm : behindInMarks op b = false := by first | exact nomark _ | rfl) : DF Γ X E M (.Compare a [op] [b] pos) (tOp r ta tb) (fOp2 o f g) :=
  ⟨pe_cmpR ho.op ha.pe hb.pe hm, fun S0 H0 S H σ δ Q r w ef k => by
    obtain ⟨a0, e1, e2⟩ := bind_some ef
    obtain ⟨⟨r0, δ'⟩, e3, e4⟩ := bind_some e2
    refine (ha.snd.sh hma) S0 H0 S H σ δ _ _ w e1 fun v S1 H1 x1 rv _ => ?_
    refine hb.snd S0 H0 S1 H1 σ δ _ _ (w.mono x1) e3 ?_
    cases r0 with
    | ok b =>
      have e4 : (o a0 b).map (fun d => (Res.ok d, δ')) = some r := e4
      cases z : o a0 b with
      | none => rw [z] at e4; cases e4
      | some y =>
        rw [z] at e4; cases e4
        intro u S2 H2 s2 w2 r2
        refine ho.snd H0 S2 H2 .sh .sh a0 b y v u Q w2.sH w2.h0 (show RepM X.K Γ H0 S2 H2 .sh a0 v from Rep.mono s2 rv) r2 z fun v3 S3 H3 x3 r3 _ => ?_
        exact k v3 S3 H3 ((x1.ss.trans s2).trans x3.ss) (w2.mono x3) r3
    | ex c fs => cases e4; exact k.ss x1.ss⟩
/-- if, the test changes slots -/
def sIfF (xo : List Nat) (f : Tv) (s s' : Sv) : Sv := fun δ => (f δ).bind fun r => match r with
  | (.ok b, δ') => if b = true then s δ' else s' δ'
  | (.ex c fs, δ') => exO xo c fs δ'
theorem ds_ifF {t : TT} {f : Tv} (hc : DTF Γ X E M c t f) (ha : DSs Γ X E rm M body tS s M1 ws) (hb : DSs Γ X E rm M els u s' M1 wt) (hxo : xoM M rm.xo = true := by rfl) : DS Γ X E rm M (.If c body els pos) (tIfS t tS u) (sIfF rm.xo f s s') M1 (ws ++ wt) := ⟨ps_if hc.pt ha.pss hb.pss, fun S0 H0 S H σ δ Dn o w ef k => by
  obtain ⟨⟨r0, δ'⟩, e1, e2⟩ := bind_some ef
  refine hc.snd S0 H0 S H σ δ _ _ w e1 ?_
  cases r0 with
  | ok b =>
    intro S1 H1 s1 w1
    cases b with
    | true => rw [if_pos rfl]; exact ha.snd S0 H0 S1 H1 σ δ' Dn o w1 e2 ((k.ss s1).up fun j => List.mem_append_left _)
    | false => rw [if_neg Bool.false_ne_true]; exact hb.snd S0 H0 S1 H1 σ δ' Dn o w1 e2 ((k.ss s1).up fun j => List.mem_append_right _)
  | ex c fs => exact fun cls dd S1 H1 s1 w1 r1 => fin_ex hxo e2 k s1 w1 r1⟩
/-- return of a truth that is told by tests -/
def sRetT (io xo : List Nat) (f : Tv) : Sv := fun δ => (f δ).bind fun r => match r with
  | (.ok b, δ') => rtO io (.bl b) δ'
  | (.ex c fs, δ') => exO xo c fs δ'
end
end Dl
/-! what changes slots, typed. -/
namespace Dl
open PySem L2
def ePk {α ι : Type} (e : α → D) (eio : ι → List D) (r : α × ι) : D := .tup (e r.1 :: eio r.2)
section
variable {α β γ ι σ ρ : Type} {f : Ev} {x : α} {T : Option α} {δ : Env} {e : α → D} {s s' A B : Sv} {g : β → Out} {fv : Fv} {P : ι → Env} {TF : Option (α × ι)} {eio : ι → List D} {k0 : ι} {tv : Tv} {TT' : Option (Bool × ι)} {xo io : List Nat} {p : Env → Option Bool} {PB : Option Bool}
def iteIo (T : Option (Bool × ι)) (A B : ι → Option β) : Option β := T.bind fun r => if r.1 = true then A r.2 else B r.2
def bind2 (T : Option (α × ι)) (K : α → ι → Option β) : Option β := T.bind fun r => K r.1 r.2
def notF (T : Option (Bool × ι)) : Option (Bool × ι) := T.bind fun r => some (!r.1, r.2)
def FvM (f : Fv) (δ : Env) (e : α → D) (P : ι → Env) (T : Option (α × ι)) : Prop := ∀ r, T = some r → f δ = some (.ok (e r.1), P r.2)
def TvM (f : Tv) (δ : Env) (P : ι → Env) (T : Option (Bool × ι)) : Prop := ∀ r, T = some r → f δ = some (.ok r.1, P r.2)
/-- a call -/
def ArG (f : Env → Option (List D)) (δ : Env) (k : List D → Option β) (g : α → β) (T : Option α) : Prop := ∀ x, T = some x → (f δ).bind k = some (g x)
theorem arGnil {β : Type} {g : α → β} {k : List D → Option β} (h : ∀ r, T = some r → k [] = some (g r)) : ArG aNil δ k g T := fun r q => h r q
theorem arGconsP {β : Type} {g : α → β} {α' : Type} {e1 : α' → D} {x1 : α'} {f1 : Ev} {fs : Env → Option (List D)} {k : List D → Option β} (a : EvP f1 δ e1 x1) (h : ArG fs δ (fun ds => k (e1 x1 :: ds)) g T) : ArG (aCons f1 fs) δ k g T := fun r q => by
  have h' := h r q
  unfold EvP at a
  rw [aCons_def, a, Option.bind_some, ← h']
  cases fs δ <;> rfl
theorem arGconsM {β : Type} {g : α → β} {α' : Type} {e1 : α' → D} {T1 : Option α'} {f1 : Ev} {fs : Env → Option (List D)} {k : List D → Option β} {TK : α' → Option α} (a : EvM f1 δ e1 T1) (h : ∀ z, ArG fs δ (fun ds => k (e1 z :: ds)) g (TK z)) : ArG (aCons f1 fs) δ k g (T1.bind TK) := fun r q => by
  obtain ⟨z, q1, q2⟩ := bind_eq q
  exact arGconsP (show EvP f1 δ e1 z from a z q1) (h z) r q2
def gOk (g : α → D) (x : α) : Res := .ok (g x)
theorem callF {ks : List AK} {den : List D → Option Res} {fs : Env → Option (List D)} (h : ArG fs δ den (gOk (ePk e eio)) TF) (hP : ∀ d k, resF ks δ (.ok (.tup (d :: eio k))) = some (.ok d, P k) := by intro _ _; rfl) : FvM (fCall ks den fs) δ e P TF := fun r q => by
  have h' := h r q
  obtain ⟨ds, q1, q2⟩ := bind_eq h'
  unfold fCall
  rw [q1, Option.bind_some, q2, Option.bind_some]
  exact hP _ _
/-! tests -/
theorem tfVal (h : FvM fv δ D.bl P TT') : TvM (fTst fv) δ P TT' := fun r q => by
  unfold fTst; rw [h r q]; rfl
theorem tfNot (h : TvM tv δ P TT') : TvM (fNot tv) δ P (notF TT') := fun r q => by
  obtain ⟨y, q1, q2⟩ := bind_eq q
  cases q2
  unfold fNot; rw [h y q1]; rfl
theorem tfAndP (h : TsM p δ PB) (h2 : TvM tv δ P TT') (h0 : P k0 = δ := by rfl) : TvM (fAnd (fPure p) tv) δ P (PB.bind fun b => if b = true then TT' else some (false, k0)) := fun r q => by
  obtain ⟨b, q1, q2⟩ := bind_eq q
  have hp := h b q1
  unfold fAnd fPure
  rw [hp]
  cases b with
  | true => rw [if_pos rfl] at q2; exact h2 r q2
  | false => rw [if_neg Bool.false_ne_true] at q2; cases q2; rw [h0]; rfl
theorem tfOrP (h : TsM p δ PB) (h2 : TvM tv δ P TT') (h0 : P k0 = δ := by rfl) : TvM (fOr (fPure p) tv) δ P (PB.bind fun b => if b = true then some (true, k0) else TT') := fun r q => by
  obtain ⟨b, q1, q2⟩ := bind_eq q
  have hp := h b q1
  unfold fOr fPure
  rw [hp]
  cases b with
  | true => rw [if_pos rfl] at q2; cases q2; rw [h0]; rfl
  | false => rw [if_neg Bool.false_ne_true] at q2; exact h2 r q2
/-! statements -/
theorem stSetF {i : Nat} {K : α → ι → Option β} (h : FvM fv δ e P TF) (k : ∀ y z, St s' ((P z).set i (some (e y))) g (K y z)) : St (sSeq (sF xo fv fun d δ => some (.nx (δ.set i (some d)))) s') δ g (bind2 TF K) := fun r q => by
  obtain ⟨y, q1, q2⟩ := bind_eq q
  have : sF xo fv (fun d δ => some (.nx (δ.set i (some d)))) δ = some (.nx ((P y.2).set i (some (e y.1)))) := by unfold sF; rw [h y q1]; rfl
  rw [sSeq_def, this]
  exact k y.1 y.2 r q2
theorem stExprF {K : ι → Option β} (h : FvM fv δ e P TF) (k : ∀ z, St s' (P z) g (K z)) : St (sSeq (sF xo fv fun _ δ => some (.nx δ)) s') δ g (bind2 TF fun _ z => K z) := fun r q => by
  obtain ⟨y, q1, q2⟩ := bind_eq q
  have : sF xo fv (fun _ δ => some (.nx δ)) δ = some (.nx (P y.2)) := by unfold sF; rw [h y q1]; rfl
  rw [sSeq_def, this]
  exact k y.2 r q2
theorem stIfF {TA TB : ι → Option β} (h : TvM tv δ P TT') (a : ∀ k, St A (P k) g (TA k)) (b : ∀ k, St B (P k) g (TB k)) : St (sIfF xo tv A B) δ g (iteIo TT' TA TB) := fun r q => by
  obtain ⟨⟨c, k⟩, q1, q2⟩ := bind_eq q
  unfold sIfF
  rw [h _ q1]
  show (if c = true then A (P k) else B (P k)) = _
  have q2 : (if c = true then TA k else TB k) = some r := q2
  cases c with
  | true => rw [if_pos rfl] at q2 ⊢; exact a k r q2
  | false => rw [if_neg Bool.false_ne_true] at q2 ⊢; exact b k r q2
theorem seq_stop {o : Out} (h : s δ = some o) (n : ∀ δ', o ≠ .nx δ') : sSeq s s' δ = some o := by
  rw [sSeq_def, h]
  cases o with
  | nx δ' => exact (n δ' rfl).elim
  | rt d => rfl
  | ex c fs => rfl
theorem stIfTF {TA TB : ι → Option β} (n : NoNx A) (h : TvM tv δ P TT') (a : ∀ k, St A (P k) g (TA k)) (b : ∀ k, St (sSeq B s') (P k) g (TB k)) : St (sSeq (sIfF xo tv A B) s') δ g (iteIo TT' TA TB) := fun r q => by
  obtain ⟨⟨c, k⟩, q1, q2⟩ := bind_eq q
  have e0 : sIfF xo tv A B δ = (if c = true then A (P k) else B (P k)) := by unfold sIfF; rw [h _ q1]; rfl
  have q2 : (if c = true then TA k else TB k) = some r := q2
  cases c with
  | true =>
    rw [if_pos rfl] at q2 e0
    have := a k r q2
    exact seq_stop (e0.trans this) fun δ' z => n (P k) δ' (by rw [this, z])
  | false =>
    rw [if_neg Bool.false_ne_true] at q2 e0
    have := b k r q2
    rw [sSeq_def] at this ⊢
    rw [e0]; exact this
theorem stIfEF {TA TB : ι → Option β} (n : NoNx B) (h : TvM tv δ P TT') (a : ∀ k, St (sSeq A s') (P k) g (TA k)) (b : ∀ k, St B (P k) g (TB k)) : St (sSeq (sIfF xo tv A B) s') δ g (iteIo TT' TA TB) := fun r q => by
  obtain ⟨⟨c, k⟩, q1, q2⟩ := bind_eq q
  have e0 : sIfF xo tv A B δ = (if c = true then A (P k) else B (P k)) := by unfold sIfF; rw [h _ q1]; rfl
  have q2 : (if c = true then TA k else TB k) = some r := q2
  cases c with
  | false =>
    rw [if_neg Bool.false_ne_true] at q2 e0
    have := b k r q2
    exact seq_stop (e0.trans this) fun δ' z => n (P k) δ' (by rw [this, z])
  | true =>
    rw [if_pos rfl] at q2 e0
    have := a k r q2
    rw [sSeq_def] at this ⊢
    rw [e0]; exact this
theorem nnIfF {f : Tv} (hx : ∀ c fs δ δ', exO xo c fs δ ≠ some (.nx δ')) (a : NoNx A) (b : NoNx B) : NoNx (sIfF xo f A B) := fun δ δ' q => by
  unfold sIfF at q
  obtain ⟨⟨r, δ1⟩, q1, q2⟩ := bind_eq q
  cases r with
  | ok c =>
    have q2 : (if c = true then A δ1 else B δ1) = some (.nx δ') := q2
    cases c with
    | true => rw [if_pos rfl] at q2; exact a _ _ q2
    | false => rw [if_neg Bool.false_ne_true] at q2; exact b _ _ q2
  | ex c fs => exact hx _ _ _ _ q2
theorem exO_nn {xo : List Nat} (c : Str) (fs : List (Str × D)) (δ δ' : Env) : exO xo c fs δ ≠ some (.nx δ') := fun h => by
  cases xo with
  | nil => cases h
  | cons i is =>
    have h : (pkX (i :: is) fs δ).map (Out.ex c) = some (.nx δ') := h
    cases q : pkX (i :: is) fs δ with
    | none => rw [q] at h; cases h
    | some z => rw [q] at h; cases h
theorem rtO_nn {io : List Nat} (d : D) (δ δ' : Env) : rtO io d δ ≠ some (.nx δ') := fun h => by
  cases io with
  | nil => cases h
  | cons i is =>
    have h : (pkR (i :: is) d δ).map Out.rt = some (.nx δ') := h
    cases q : pkR (i :: is) d δ with
    | none => rw [q] at h; cases h
    | some z => rw [q] at h; cases h
theorem nnIfFx {f : Tv} (a : NoNx A) (b : NoNx B) : NoNx (sIfF xo f A B) := nnIfF exO_nn a b
/-! what is handed back -/
theorem stRetI (h : EvP f δ e x) (hk : ∀ d, rtO io d δ = some (.rt (.tup (d :: eio k0))) := by intro _; rfl) : St (sRetI io f) δ (fun r => .rt (ePk e eio r)) (some (x, k0)) := fun r q => by
  cases q
  unfold EvP at h
  unfold sRetI
  rw [h]; exact hk _
theorem stRetIM (h : EvM f δ e T) (hk : ∀ d, rtO io d δ = some (.rt (.tup (d :: eio k0))) := by intro _; rfl) : St (sRetI io f) δ (fun r => .rt (ePk e eio r)) (T.bind fun x => some (x, k0)) := fun r q => by
  obtain ⟨y, q1, q2⟩ := bind_eq q
  cases q2
  unfold sRetI
  rw [h y q1]; exact hk _
theorem stRetIC {E : σ → Env} (h : EvP f δ e x) (hk : ∀ d, rtO io d δ = some (.rt (.tup (d :: eio k0))) := by intro _; rfl) : St (sRetI io f) δ (outF E (ePk e eio)) (some (.rt (x, k0))) := fun r q => by
  cases q
  exact stRetI (k0 := k0) h hk _ rfl
theorem stRetICM {E : σ → Env} (h : EvM f δ e T) (hk : ∀ d, rtO io d δ = some (.rt (.tup (d :: eio k0))) := by intro _; rfl) : St (sRetI io f) δ (outF E (ePk e eio)) (T.bind fun x => some (.rt (x, k0))) := fun r q => by
  obtain ⟨y, q1, q2⟩ := bind_eq q
  cases q2
  exact stRetIM (k0 := k0) h hk _ (show T.bind _ = _ by rw [q1]; rfl)
theorem nnRetI : NoNx (sRetI io f) := fun δ δ' h => by
  obtain ⟨d, _, q⟩ := bind_eq (show (f δ).bind (fun d => rtO io d δ) = some (.nx δ') from h)
  exact rtO_nn _ _ _ q
/-- return f(..) -/
theorem stRetF {ι' : Type} {eio' : ι' → List D} {c : ι → ι'} (h : FvM fv δ e P TF) (hk : ∀ d k, rtO io d (P k) = some (.rt (.tup (d :: eio' (c k)))) := by intro _ _; rfl) : St (sF xo fv (rtO io)) δ (fun r => .rt (ePk e eio' r)) (TF.bind fun r => some (r.1, c r.2)) := fun r q => by
  obtain ⟨y, q1, q2⟩ := bind_eq q
  cases q2
  unfold sF
  rw [h y q1]; exact hk _ _
theorem stRetFC {ι' : Type} {eio' : ι' → List D} {c : ι → ι'} {E : σ → Env} (h : FvM fv δ e P TF) (hk : ∀ d k, rtO io d (P k) = some (.rt (.tup (d :: eio' (c k)))) := by intro _ _; rfl) : St (sF xo fv (rtO io)) δ (outF E (ePk e eio')) (TF.bind fun r => some (.rt (r.1, c r.2))) := fun r q => by
  obtain ⟨y, q1, q2⟩ := bind_eq q
  cases q2
  unfold sF
  rw [h y q1]; exact hk _ _
theorem nnRetF : NoNx (sF xo fv (rtO io)) := fun δ δ' h => by
  unfold sF at h
  obtain ⟨⟨r, δ1⟩, _, q⟩ := bind_eq h
  cases r with
  | ok d => exact rtO_nn _ _ _ q
  | ex c fs => exact exO_nn _ _ _ _ q
/-! defs -/
theorem defM_of {n np : Nat} {s : Sv} {ds : List D} (hl : ds.length = np) (h : St s (ds.map some ++ List.replicate (n - np) none) (fun r => .rt (ePk e eio r)) TF) : ∀ r, TF = some r → denMN n np io s ds = some (gOk (ePk e eio) r) := fun r q => by
  unfold denMN
  rw [if_pos hl, h r q]; rfl
theorem stOffI {E : ι → Env} (hE : δ = E k0 := by rfl) : St sNext δ (fun r : Unit × ι => .nx (E r.2)) (some ((), k0)) := fun r q => by cases q; rw [hE]; rfl
theorem defMU_of {n np : Nat} {s : Sv} {ds : List D} {TU : Option (Unit × ι)} {E : ι → Env} (hl : ds.length = np) (h : St s (ds.map some ++ List.replicate (n - np) none) (fun r : Unit × ι => .nx (E r.2)) TU) (hE : ∀ k, pkR io .non (E k) = some (.tup (.non :: eio k)) := by intro _; rfl) : ∀ r, TU = some r → denMN n np io s ds = some (gOk (ePk eU eio) r) := fun r q => by
  unfold denMN
  rw [if_pos hl, h r q]
  show (pkR io .non (E r.2)).map Res.ok = _
  rw [hE]; rfl
end
end Dl
set_option maxHeartbeats 1000000
/-! dicts and lists of lists of one's own. -/
namespace Dl
open PySem L2 PyProof.Rows
section
variable {K : PySem.W.Frag} {Γ : CM} {S0 H0 S H S' H' : Hp} {σ : L2.St} {M : List Mode} {δ : Env} {i : Nat} {b : Bool} {kvs : List (Key × List D)} {vs : List (Key × V)} {a : Addr}
abbrev refsN (vs : List (Key × V)) : List Addr := vs.flatMap fun kv => refV kv.2
theorem OwnDL.len : ∀ {ds : List (Key × List D)} {vs : List (Key × V)}, OwnDL K Γ S H ds vs → vs.length = ds.length
  | [], _, h => by rw [show _ = [] from h]; rfl
  | (k, e) :: ds, _, ⟨q, ws, us, e1, e3, l, r, t⟩ => by subst e1; rw [List.length_cons, List.length_cons, OwnDL.len t]
/-- the n-th list -/
theorem OwnDL.at : ∀ {ds : List (Key × List D)} {vs : List (Key × V)} {n : Nat} {k : Key} {e : List D}, OwnDL K Γ S H ds vs → ds[n]? = some (k, e) → ∃ q us, vs[n]? = some (k, .ref q) ∧ q ∈ refsN vs ∧ H q = some (.lst us) ∧ e.length ≤ sizeLine ∧ RepL K Γ S e us
  | [], _, _, _, _, _, h => by simp at h
  | (k, e) :: ds, _, 0, k', e', ⟨q, ws, us, e1, e3, l, r, t⟩, h => by
    subst e1
    cases (show some (k, e) = some (k', e') from h)
    exact ⟨q, us, rfl, List.mem_cons_self, e3, l, r⟩
  | (k, e) :: ds, _, n + 1, k', e', ⟨q, ws, us, e1, e3, l, r, t⟩, h => by
    subst e1
    obtain ⟨q', us', h1, h2, h3⟩ := OwnDL.at (n := n) t h
    exact ⟨q', us', h1, List.mem_cons_of_mem _ h2, h3⟩
/-- .. grows -/
theorem OwnDL.app {x : D} {v : V} (rx : Rep K Γ S x v) : ∀ {ds : List (Key × List D)} {vs : List (Key × V)} {n : Nat} {k : Key} {e : List D} {q : Addr} {us : List V}, OwnDL K Γ S H ds vs → (refsN vs).Nodup → ds[n]? = some (k, e) → e.length < sizeLine → vs[n]? = some (k, .ref q) → H q = some (.lst us) → OwnDL K Γ S (upd H q (.lst (us ++ [v]))) (ds.set n (k, e ++ [x])) vs
  | [], _, _, _, _, _, _, _, _, h, _, _, _ => by simp at h
  | (k, e) :: ds, _, 0, k', e', q', us', ⟨q, ws, us, e1, e3, l, r, t⟩, nd, h, hl, hv, hq => by
    subst e1
    cases (show some (k, e) = some (k', e') from h)
    have e2 : q = q' := V.ref.inj (Prod.mk.inj (Option.some.inj (show some (k, V.ref q) = some (k, V.ref q') from hv))).2
    subst e2
    have e4 : us = us' := by rw [e3] at hq; exact HO.lst.inj (Option.some.inj hq)
    subst e4
    have nd' : (q :: refsN ws).Nodup := nd
    refine ⟨q, ws, us ++ [v], rfl, upd_same, by rw [List.length_append, List.length_singleton]; omega, r.append (RepL.one rx), t.same (Same.refl _) fun p hp o ho => ?_⟩
    rw [upd_ne (fun z => (List.nodup_cons.mp nd').1 (by rw [← z]; exact hp))]; exact ho
  | (k, e) :: ds, _, n + 1, k', e', q', us', ⟨q, ws, us, e1, e3, l, r, t⟩, nd, h, hl, hv, hq => by
    subst e1
    have nd' : (q :: refsN ws).Nodup := nd
    obtain ⟨q2, us2, h1, h2, _⟩ := OwnDL.at (n := n) t h
    have hv : ws[n]? = some (k', .ref q') := hv
    rw [hv] at h1; cases h1
    refine ⟨q, ws, us, rfl, ?_, l, r, OwnDL.app rx (n := n) t (List.nodup_cons.mp nd').2 h hl hv hq⟩
    rw [upd_ne (fun z => (List.nodup_cons.mp nd').1 (by rw [z]; exact h2))]; exact e3
theorem OwnDL.snoc {k : Key} {p : Addr} (hp : H p = some (.lst [])) : ∀ {ds : List (Key × List D)} {vs : List (Key × V)}, OwnDL K Γ S H ds vs → OwnDL K Γ S H (ds ++ [(k, [])]) (vs ++ [(k, .ref p)])
  | [], _, h => by cases (show _ = [] from h); exact ⟨p, [], [], rfl, hp, Nat.zero_le _, rfl, rfl⟩
  | (k', e) :: ds, _, ⟨q, ws, us, e1, e3, l, r, t⟩ => by subst e1; exact ⟨q, ws ++ [(k, .ref p)], us, rfl, e3, l, r, OwnDL.snoc hp t⟩
theorem nst_foot (e : H a = some (nstO b vs)) : foot Γ H a (.nst b kvs) = a :: refsN vs := by
  show a :: refsD (H a) = _
  rw [e, refsD_nst]
/-- a list of it grows -/
theorem Wd.nstApp {n : Nat} {k : Key} {e : List D} {x : D} {v : V} (w : Wd K Γ S0 H0 S H σ M δ) (hm : md M i = .ow) (hd : δ[i]? = some (some (.nst b kvs))) (hs : σ[i]? = some (some (.ref a))) (h1 : H a = some (nstO b vs)) (h3 : OwnDL K Γ S H kvs vs) (hn : kvs[n]? = some (k, e)) (hl : e.length < sizeLine) (rx : Rep K Γ S x v) :
    ∃ q us, vs[n]? = some (k, .ref q) ∧ H q = some (.lst us) ∧ us.length = e.length ∧ Wd K Γ S0 H0 S (upd H q (.lst (us ++ [v]))) σ M (δ.set i (some (.nst b (kvs.set n (k, e ++ [x]))))) := by
  obtain ⟨_, vs0, g1, h2, _, nd⟩ := w.top hm hd hs
  have er : refsN vs0 = refsN vs := by
    have z := congrArg refsD (g1.symm.trans h1)
    rw [refsD_nst, refsD_nst] at z
    exact z
  have nd : (a :: refsN vs).Nodup := er ▸ nd
  obtain ⟨q, us, q1, q2, q3, q4, q5⟩ := h3.at hn
  have ne : a ≠ q := fun z => (List.nodup_cons.mp nd).1 (z ▸ q2)
  have ha : upd H q (.lst (us ++ [v])) a = some (nstO b vs) := by rw [upd_ne ne]; exact h1
  refine ⟨q, us, q1, q3, q5.length, w.change1 hm hd hs (fun p o ho z => ?_) ⟨vs, ha, by rw [List.length_set]; exact h2, h3.app rx (List.nodup_cons.mp nd).2 hn hl q1 q3, nd⟩ fun p hp => ?_⟩
  · rw [upd_ne (fun y => z (by rw [nst_foot h1, y]; exact List.mem_cons_of_mem _ q2))]; exact ho
  · rw [nst_foot ha] at hp
    rw [nst_foot h1]; exact .inl hp
/-- a key more, with an empty list -/
theorem Wd.nstPut {k : Key} {p : Addr} (w : Wd K Γ S0 H0 S H σ M δ) (hm : md M i = .ow) (hd : δ[i]? = some (some (.nst true kvs))) (hs : σ[i]? = some (some (.ref a))) (e : H a = some (.dK vs)) (hp : H p = none) (hl : kvs.length < sizeLine) :
    Wd K Γ S0 H0 S (upd (upd H p (.lst [])) a (.dK (vs ++ [(k, .ref p)]))) σ M (δ.set i (some (.nst true (kvs ++ [(k, [])])))) := by
  obtain ⟨n0, vs', h1, h2, h3, nd⟩ := w.top hm hd hs
  have ev : vs' = vs := by rw [e] at h1; cases h1; rfl
  subst ev
  have ne : a ≠ p := fun z => by rw [z, hp] at e; cases e
  have np : ∀ q ∈ a :: refsN vs', q ≠ p := fun q hq z => by
    obtain ⟨o, ho, _⟩ := (w.top hm hd hs).2.all q (by rw [nst_foot h1]; exact hq)
    rw [z, hp] at ho; cases ho
  have ext : ∀ q o, H q = some o → q ≠ a → upd (upd H p (.lst [])) a (.dK (vs' ++ [(k, .ref p)])) q = some o := fun q o ho z => by
    rw [upd_ne z, upd_ne (ne_of_none ho hp)]; exact ho
  have hr : refsN (vs' ++ [(k, .ref p)]) = refsN vs' ++ [p] := by unfold refsN; rw [List.flatMap_append]; rfl
  refine w.change1 hm hd hs (fun q o ho z => ext q o ho fun y => z (by rw [y]; exact self_foot)) ⟨vs' ++ [(k, .ref p)], upd_same, by rw [List.length_append, List.length_singleton]; omega, OwnDL.snoc (by rw [upd_ne ne.symm, upd_same]) (h3.same (Same.refl _) fun q hq o ho => ext q o ho fun z => (List.nodup_cons.mp nd).1 (z ▸ hq)), ?_⟩ fun q hq => ?_
  · show (a :: refsN (vs' ++ [(k, .ref p)])).Nodup
    rw [hr, ← List.cons_append]
    refine List.nodup_append.mpr ⟨nd, by simp, fun x hx y hy => ?_⟩
    rw [List.mem_singleton.mp hy]; exact np x hx
  · have hq : q ∈ a :: refsD (upd (upd H p (.lst [])) a (.dK (vs' ++ [(k, .ref p)])) a) := hq
    rw [upd_same] at hq
    have hq : q ∈ a :: refsN (vs' ++ [(k, .ref p)]) := hq
    rw [hr] at hq
    rw [nst_foot h1]
    rcases List.mem_cons.mp hq with rfl | hq
    · exact .inl List.mem_cons_self
    · rcases List.mem_append.mp hq with hq | hq
      · exact .inl (List.mem_cons_of_mem _ hq)
      · rw [List.mem_singleton.mp hq]; exact .inr hp
/-! ### keys -/
def kIx {α : Type} (k : Key) : List (Key × α) → Option Nat
  | [] => none
  | p :: r => if p.1 = k then some 0 else (kIx k r).map (· + 1)
theorem kIx_get {α : Type} {k : Key} : ∀ {l : List (Key × α)} {n : Nat}, kIx k l = some n → ∃ e, l[n]? = some (k, e)
  | [], _, h => by cases h
  | p :: r, n, h => by
    unfold kIx at h
    split at h
    · rename_i q; cases h; obtain ⟨k', e⟩ := p; cases q; exact ⟨e, rfl⟩
    · cases q : kIx k r with
      | none => rw [q] at h; cases h
      | some m => rw [q] at h; cases h; exact kIx_get (l := r) q
theorem OwnDL.kix {k : Key} : ∀ {ds : List (Key × List D)} {vs : List (Key × V)}, OwnDL K Γ S H ds vs → (kIx k ds = none → valV vs k = none) ∧ ∀ n, kIx k ds = some n → valV vs k = (vs[n]?).map (·.2)
  | [], _, h => by cases (show _ = [] from h); exact ⟨fun _ => rfl, fun n z => by cases z⟩
  | (k', e) :: ds, _, ⟨q, ws, us, e1, e3, l, r, t⟩ => by
    subst e1
    obtain ⟨h1, h2⟩ := OwnDL.kix (k := k) t
    by_cases c : k' = k
    · refine ⟨fun z => ?_, fun n z => ?_⟩
      · unfold kIx at z; rw [if_pos c] at z; cases z
      · unfold kIx at z; rw [if_pos c] at z; cases z; rw [valV_pos c]; rfl
    · refine ⟨fun z => ?_, fun n z => ?_⟩
      · unfold kIx at z; rw [if_neg c] at z
        rw [valV_neg c]
        cases q2 : kIx k ds with
        | none => exact h1 q2
        | some m => rw [q2] at z; cases z
      · unfold kIx at z; rw [if_neg c] at z
        rw [valV_neg c]
        cases q2 : kIx k ds with
        | none => rw [q2] at z; cases z
        | some m => rw [q2] at z; cases z; exact h2 m q2
theorem putK_none {k : Key} {v : V} : ∀ {vs : List (Key × V)}, valV vs k = none → putK vs k v = vs ++ [(k, v)] := fun {vs} h => by
  unfold putK
  rw [if_neg]
  intro z
  rw [List.any_eq_true] at z
  obtain ⟨p, hp, e⟩ := z
  unfold valV at h
  cases q : vs.find? (fun kv => decide (kv.1 = k)) with
  | none => exact absurd e (by simpa using List.find?_eq_none.mp q p hp)
  | some x => rw [q] at h; cases h
end
/-! ### statements -/
section
variable {X : Cx} {Γ : CM} {E : WX} {rm : RM} {M M1 : List Mode} {e e1 e2 : Expr} {t1 t2 : TE} {f1 f2 : Ev} {m1 m2 : Mode} {pos apos cpos p2 : Pos}
/-- x[e1].append(e2), x a list of lists of its own -/
def sNApp (i : Nat) (f1 f2 : Ev) : Sv := fun δ => (vVar i δ).bind fun l => match l with
  | .nst false kvs => (f1 δ).bind fun j => match j with
    | .int j => (ixN kvs.length j).bind fun n => (kvs[n]?).bind fun ke => (f2 δ).bind fun x => if ke.2.length < sizeLine then some (.nx (δ.set i (some (.nst false (kvs.set n (ke.1, ke.2 ++ [x])))))) else none
    | _ => none
  | _ => none
theorem ds_nApp (K : PySem.W.Frag) {i : Nat} {x : Str} {p : Pos} (hM : md M i = .ow) (hu : X.A.units + 64 < cLine) (h1 : DE Γ X M e1 t1 f1 m1) (h2 : DE Γ X M e2 t2 f2 m2) (hm1 : okS m1 = true := by rfl) (hm2 : okS m2 = true := by rfl) (hN : X.N[i]? = some x := by rfl) (hv : Vis X.env.scope x := by first | exact Or.inl rfl | exact Or.inr (Or.inl rfl) | exact Or.inr (Or.inr rfl)) (hd : (x == ("__debug__" : Str)) = false := by decide)
    (hcd : (x == ("__classdict__" : Str)) = false := by decide) (hbase : attributeBase (.Subscript (.Name x p) e1 p2) "append" X.env (eval (.Subscript (.Name x p) e1 p2) X.env) = eval (.Subscript (.Name x p) e1 p2) X.env := by rfl)
    (hfew : (((backTo cpos (starEach [e2] X.env)).all (!·.1)) && ((backToKw cpos (keywordEach [] X.env)).all (·.1.isSome)) && decide (([e2].length + ([] : List Keyword).length + if ([] : List Keyword).isEmpty = true then 0 else 1) < 30)) = true := by rfl) (hline : (apos.endLine == cpos.line) = true := by rfl)
    (h3 : starEach [e2] X.env = (false, eval e2 X.env) :: starEach [] X.env := by rfl) (h4 : (backTo cpos (starEach [] X.env)).any (·.1) = false := by rfl) (hs : swapsWith (.Call (.Attribute (.Subscript (.Name x p) e1 p2) "append" apos) [e2] [] cpos) none pos.line X.env = pure false := by rfl) (hpi : PlainIx e1 := by exact fun _ _ => rfl) (hK : X.K = K := by rfl) :
    DS Γ X E rm M (.Expr (.Call (.Attribute (.Subscript (.Name x p) e1 p2) "append" apos) [e2] [] cpos) pos) (tDrop (tBM K "list" rAppend (tOp (rIxA K) (tVar i) t1) (tCons t2 tNil))) (sNApp i f1 f2) M [] := by
  subst hK
  refine ⟨ps_expr (pe_bm PySem.F.plainAttrs_list PySem.F.slot_list_append PySem.F.type_list_append mt_append (pe_ix (ix_all (by omega)) (pe_var hN hv hd hcd) h1.pe hpi) (pa_cons h2.pe pa_nil h3) hbase hfew hline h3 h4) hs, fun S0 H0 S H σ δ Dn o w ef k => ?_⟩
  obtain ⟨l, q1, q2⟩ := bind_some ef
  have hl := vVar_some q1
  cases l with
  | nst b kvs =>
    cases b with
    | true => cases q2
    | false =>
      obtain ⟨jd, q3, q4⟩ := bind_some q2
      cases jd with
      | int j =>
        obtain ⟨n, q5, q6⟩ := bind_some q4
        obtain ⟨⟨kk, e⟩, q7, q8⟩ := bind_some q6
        obtain ⟨xd, q9, q10⟩ := bind_some q8
        obtain ⟨hz, rfl⟩ := ite_some q10
        obtain ⟨a, hp, hS, _⟩ := w.owned hM hl
        refine ⟨_, hp, ?_⟩
        refine (h1.snd.sh hm1) S0 H0 S H σ δ _ _ w q3 fun u S1 H1 x1 r1 _ => ?_
        cases (show u = .int j from r1)
        have w1 := w.mono x1
        obtain ⟨_, vs, hH, hz2, hO, nd⟩ := w1.top hM hl hp
        obtain ⟨q, us, v1, v2, v3, v4, v5⟩ := hO.at q7
        have hH' : H1 a = some (.lst (vs.map (·.2))) := hH
        refine .inl ⟨a, vs.map (·.2), j, .ref q, rfl, rfl, SqL.of hH', ?_, .inl ⟨rfl, us, SqL.of v3⟩, ?_⟩
        · unfold L2.atI
          rw [List.length_map, hO.len, q5, Option.bind_some, List.getElem?_map, v1]; rfl
        refine (h2.snd.sh hm2) S0 H0 S1 H1 σ δ _ _ w1 q9 fun v S2 H2 x2 r2 _ => ?_
        have w2 := w1.mono x2
        have O2 : OwnDL X.K Γ S2 H2 kvs vs := hO.same x2.ss fun q _ o ho => x2.hh _ _ ho
        obtain ⟨q', us', y2, y3, y4, y5⟩ := w2.nstApp hM hl hp (b := false) (x2.hh _ _ hH) O2 q7 hz r2
        rw [v1] at y2; cases y2
        rw [x2.hh _ _ v3] at y3; cases y3
        exact ⟨q, us, v, rfl, rfl, x2.hh _ _ v3, by rw [y4]; exact hz, k S2 _ σ (x1.ss.trans x2.ss) y5 Fr.refl⟩
      | _ => cases q4
  | _ => cases q2
/-- x.setdefault(k, []).append(e), x a dict of lists of its own -/
def sdP {α : Type} (k : Key) (kvs : List (Key × List α)) : Option (List (Key × List α)) := match kIx k kvs with
  | some _ => if kvs.length < sizeLine then some kvs else none
  | none => if kvs.length < sizeLine then some (kvs ++ [(k, [])]) else none
def apK {α : Type} (k : Key) (x : α) (kvs : List (Key × List α)) : Option (List (Key × List α)) := (kIx k kvs).bind fun n => (kvs[n]?).bind fun ke => if ke.2.length < sizeLine then some (kvs.set n (ke.1, ke.2 ++ [x])) else none
theorem kIx_snoc {α : Type} {k : Key} {x : α} : ∀ {l : List (Key × α)}, kIx k l = none → kIx k (l ++ [(k, x)]) = some l.length
  | [], _ => if_pos rfl
  | p :: r, h => by
    unfold kIx at h
    split at h
    · cases h
    · rename_i q
      show (if p.1 = k then some 0 else (kIx k (r ++ [(k, x)])).map (· + 1)) = _
      rw [if_neg q]
      cases q2 : kIx k r with
      | some m => rw [q2] at h; cases h
      | none => rw [kIx_snoc q2]; rfl
theorem set_self {α : Type} : ∀ {l : List α} {i : Nat} {x : α}, l[i]? = some x → l.set i x = l
  | [], _, _, h => by simp at h
  | y :: l, 0, x, h => by cases (show some y = some x from h); rfl
  | y :: l, i + 1, x, h => by show y :: l.set i x = _; rw [set_self (l := l) h]
def sSdApp (i : Nat) (fk fx : Ev) : Sv := fun δ => (vVar i δ).bind fun l => match l with
  | .nst true kvs => (fk δ).bind fun kd => (keyD kd).bind fun k => (sdP k kvs).bind fun kvs0 => (fx (δ.set i (some (.nst true kvs0)))).bind fun x => (apK k x kvs0).map fun kvs' => .nx (δ.set i (some (.nst true kvs')))
  | _ => none
theorem ds_sdApp (K : PySem.W.Frag) {i : Nat} {x : Str} {p kp : Pos} {mpos : Pos} (hM : md M i = .ow) (h1 : DE Γ X M e1 t1 f1 m1) (h2 : DE Γ X M e2 t2 f2 m2) (hm1 : okS m1 = true := by rfl) (hm2 : okS m2 = true := by rfl) (hN : X.N[i]? = some x := by rfl) (hv : Vis X.env.scope x := by first | exact Or.inl rfl | exact Or.inr (Or.inl rfl) | exact Or.inr (Or.inr rfl)) (hd : (x == ("__debug__" : Str)) = false := by decide)
    (hcd : (x == ("__classdict__" : Str)) = false := by decide) (mm : M2 X (.Name x p) "setdefault" mpos e1 (.List [] kp) p2 := by exact ⟨rfl, rfl, rfl, rfl⟩)
    (hbase : attributeBase (.Call (.Attribute (.Name x p) "setdefault" mpos) [e1, .List [] kp] [] p2) "append" X.env (eval (.Call (.Attribute (.Name x p) "setdefault" mpos) [e1, .List [] kp] [] p2) X.env) = eval (.Call (.Attribute (.Name x p) "setdefault" mpos) [e1, .List [] kp] [] p2) X.env := by rfl)
    (hfew : (((backTo cpos (starEach [e2] X.env)).all (!·.1)) && ((backToKw cpos (keywordEach [] X.env)).all (·.1.isSome)) && decide (([e2].length + ([] : List Keyword).length + if ([] : List Keyword).isEmpty = true then 0 else 1) < 30)) = true := by rfl) (hline : (apos.endLine == cpos.line) = true := by rfl)
    (h3 : starEach [e2] X.env = (false, eval e2 X.env) :: starEach [] X.env := by rfl) (h4 : (backTo cpos (starEach [] X.env)).any (·.1) = false := by rfl) (hs : swapsWith (.Call (.Attribute (.Call (.Attribute (.Name x p) "setdefault" mpos) [e1, .List [] kp] [] p2) "append" apos) [e2] [] cpos) none pos.line X.env = pure false := by rfl) (hK : X.K = K := by rfl) :
    DS Γ X E rm M (.Expr (.Call (.Attribute (.Call (.Attribute (.Name x p) "setdefault" mpos) [e1, .List [] kp] [] p2) "append" apos) [e2] [] cpos) pos) (tDrop (tBM K "list" rAppend (tDSetd (tVar i) t1 (tLst tNil)) (tCons t2 tNil))) (sSdApp i f1 f2) M [] := by
  subst hK
  refine ⟨ps_expr (pe_bm PySem.F.plainAttrs_list PySem.F.slot_list_append PySem.F.type_list_append mt_append (pe_dsetd (pe_var hN hv hd hcd) h1.pe (pe_lst pa_nil) mm) (pa_cons h2.pe pa_nil h3) hbase hfew hline h3 h4) hs, fun S0 H0 S H σ δ Dn o w ef k => ?_⟩
  obtain ⟨l, q1, q2⟩ := bind_some ef
  have hl := vVar_some q1
  cases l with
  | nst b kvs =>
    cases b with
    | false => cases q2
    | true =>
      obtain ⟨kd, q3, q4⟩ := bind_some q2
      obtain ⟨key, q5, q6⟩ := bind_some q4
      obtain ⟨kvs0, q7, q8⟩ := bind_some q6
      obtain ⟨xd, q9, q10⟩ := bind_some q8
      obtain ⟨kvs', q11, rfl⟩ := map_some q10
      obtain ⟨n, z1, z2⟩ := bind_some q11
      obtain ⟨⟨k', e⟩, z3, z4⟩ := bind_some z2
      obtain ⟨hle, rfl⟩ := ite_some z4
      obtain ⟨e', ge⟩ := kIx_get z1
      rw [ge] at z3; cases z3
      have hz : kvs.length < sizeLine := by
        unfold sdP at q7
        split at q7
        · exact (ite_some q7).1
        · exact (ite_some q7).1
      obtain ⟨a, hp, hS, vs0, g0, _⟩ := w.owned hM hl
      have g0 : H a = some (.dK vs0) := g0
      have li : i < δ.length := (List.getElem?_eq_some_iff.mp hl).1
      refine ⟨_, hp, a, rfl, .inl ⟨vs0, .inl g0⟩, ?_⟩
      refine (h1.snd.sh hm1) S0 H0 S H σ δ _ _ w q3 fun u S1 H1 x1 r1 _ => ?_
      have w1 := w.mono x1
      show (0 : Nat) ≤ sizeLine ∧ _
      refine ⟨Nat.zero_le _, fun pn hpn => ?_⟩
      obtain ⟨_, vs, hH, hz2, hO, nd⟩ := w1.top hM hl hp
      have hH : H1 a = some (.dK vs) := hH
      have na : a ≠ pn := fun z => by rw [z, hpn] at hH; cases hH
      have xn : Ext S1 H1 S1 (upd H1 pn (.lst [])) := Ext.owned w1.sH hpn _
      obtain ⟨kn, ks⟩ := hO.kix (k := key)
      -- once the list q stands in the dict
      have fin : ∀ H2 q, Wd X.K Γ S0 H0 S1 H2 σ M (δ.set i (some (.nst true kvs0))) → (∃ vs2, H2 a = some (.dK vs2) ∧ OwnDL X.K Γ S1 H2 kvs0 vs2 ∧ vs2[n]? = some (key, .ref q)) → tyV X.K "list" (.ref q) H2 ∧ tCons t2 tNil σ H2 fun xs H3 => rAppend (.ref q) xs H3 fun _ H4 => Dn.nx σ H4 := fun H2 q w2 ⟨vs2, b1, b2, b3⟩ => by
        have hl2 : (δ.set i (some (D.nst true kvs0)))[i]? = some (some (.nst true kvs0)) := List.getElem?_set_self li
        obtain ⟨q', us, v1, v2, v3, v4, v5⟩ := b2.at ge
        rw [b3] at v1; cases v1
        refine ⟨.inl ⟨rfl, us, SqL.of v3⟩, ?_⟩
        refine (h2.snd.sh hm2) S0 H0 S1 H2 σ _ _ _ w2 q9 fun y S3 H3 x3 r3 _ => ?_
        have w3 := w2.mono x3
        have O3 : OwnDL X.K Γ S3 H3 kvs0 vs2 := b2.same x3.ss fun q _ o ho => x3.hh _ _ ho
        obtain ⟨q', us', y2, y3, y4, y5⟩ := w3.nstApp hM hl2 hp (b := true) (x3.hh _ _ b1) O3 ge hle r3
        rw [b3] at y2; cases y2
        rw [x3.hh _ _ v3] at y3; cases y3
        rw [List.set_set] at y5
        exact ⟨q, us, y, rfl, rfl, x3.hh _ _ v3, by rw [y4]; exact hle, k S3 _ σ (x1.ss.trans x3.ss) y5 Fr.refl⟩
      refine ⟨vs, key, by rw [upd_ne na]; exact hH, r1.key q5, by rw [hO.len]; exact hz, fun v hv => ?_, fun hv => ?_⟩
      · -- it is there
        cases qk : kIx key kvs with
        | none => rw [kn qk] at hv; cases hv
        | some n2 =>
          unfold sdP at q7
          rw [qk] at q7
          obtain ⟨_, rfl⟩ := ite_some q7
          rw [z1] at qk; cases qk
          rw [ks n z1] at hv
          obtain ⟨q, us, v1, v2, v3, v4, v5⟩ := hO.at ge
          rw [v1] at hv; cases hv
          refine fin _ q ?_ ⟨vs, by rw [upd_ne na]; exact hH, hO.same (Same.refl _) fun q _ o ho => xn.hh _ _ ho, v1⟩
          rw [set_self hl]; exact w1.mono xn
      · -- it is new
        cases qk : kIx key kvs with
        | some n2 =>
          rw [ks n2 qk] at hv
          obtain ⟨e', ge2⟩ := kIx_get qk
          obtain ⟨q, us, v1, _⟩ := hO.at ge2
          rw [v1] at hv; cases hv
        | none =>
          unfold sdP at q7
          rw [qk] at q7
          obtain ⟨_, rfl⟩ := ite_some q7
          rw [kIx_snoc qk] at z1
          cases z1
          rw [putK_none hv]
          have w2 := w1.nstPut (k := key) hM hl hp hH hpn hz
          obtain ⟨_, vs2, c1, c2, c3, c4⟩ := w2.top hM (List.getElem?_set_self li) hp
          refine fin _ pn w2 ⟨vs ++ [(key, .ref pn)], upd_same, ?_, by rw [← hO.len, List.getElem?_append_right (Nat.le_refl _), Nat.sub_self]; rfl⟩
          have c1 : upd (upd H1 pn (.lst [])) a (.dK (vs ++ [(key, .ref pn)])) a = some (.dK vs2) := c1
          rw [upd_same] at c1
          have ev := HO.dK.inj (Option.some.inj c1)
          subst ev; exact c3
  | _ => cases q2
/-! ### [[] for x in xs] -/
def e0 : Key × List D := (.inl 0, [])
def vLcN (it : Env → Option (List D)) (set : Hv) (vs : List Nat) : Ev := fun δ => (it δ).bind fun ds => (lcD set tsYes (fun _ => some .non) (wipeE δ vs) ds).map fun out => .nst false (out.map fun _ => e0)
theorem lcD_yes {set : Hv} {elt : Ev} {δ : Env} : ∀ {ds out : List D}, lcD set tsYes elt δ ds = some out → out.length = ds.length
  | [], out, h => by cases h; rfl
  | d :: ds, out, h => by
    obtain ⟨δ1, e1, e2⟩ := bind_some h
    obtain ⟨b, e3, e4⟩ := bind_some e2
    cases e3
    rw [if_pos rfl] at e4
    obtain ⟨y, e5, e6⟩ := bind_some e4
    cases q : lcD set tsYes elt δ ds with
    | none => rw [q] at e6; cases e6
    | some o => rw [q] at e6; cases e6; exact congrArg (· + 1) (lcD_yes q)
theorem OwnDL.keep {K : PySem.W.Frag} {S H S' H' : Hp} {ds : List (Key × List D)} {vs : List (Key × V)} (x : Ext S H S' H') (t : OwnDL K Γ S H ds vs) : OwnDL K Γ S' H' ds vs := t.same x.ss fun q _ o ho => x.hh _ _ ho
theorem snd_lcN {K : PySem.W.Frag} {wi : TI} {it : Env → Option (List D)} {g : TG} {h : Hv} {ws vs : List Nat} (hi : SndIC K Γ M wi it) (hg : SndG K Γ M g h M1 ws) (hw : ∀ i ∈ ws, i ∈ vs) :
    SndE K Γ M (tLc wi g tYes (tLst tNil) vs) (vLcN it h vs) .ow := fun S0 H0 S H σ δ Q d w ef k => by
  obtain ⟨ds, q1, q2⟩ := bind_some ef
  obtain ⟨out, q, rfl⟩ := map_some q2
  refine hi S0 H0 S H σ δ _ ds w q1 fun J S1 H1 x1 ok A hA => ?_
  have w1 := w.mono x1
  have sA : S1 A = none := Same.none x1.sh hA
  refine ⟨fun i m H' => m = ds.length - i ∧ i ≤ ds.length ∧ ∃ S2 vs1 rest, Ext S1 H1 S2 H' ∧ H' A = some (.lst (vs1.map (·.2))) ∧ S2 A = none ∧ OwnDL K Γ S2 H' (List.replicate i e0) vs1 ∧ (A :: refsN vs1).Nodup ∧ (∀ q ∈ refsN vs1, H1 q = none ∧ S2 q = none) ∧ lcD h tsYes (fun _ => some .non) (wipeE δ vs) (ds.drop i) = some rest,
    ⟨_, rfl, Nat.zero_le _, S1, [], out, Ext.owned x1.sh hA _, upd_same, sA, rfl, by simp, (fun q hq => nomatch hq), q⟩, ?_⟩
  rintro i m H2 ⟨rfl, hi', S2, vs1, rest, x2, hA2, sA2, r2, nd2, fr2, e3⟩
  have w2 := w1.mono x2
  have at_ := ok.2 S2 H2 x2
  by_cases hlt : i < ds.length
  · refine .inr ⟨(at_.go i ds[i] (List.getElem?_eq_getElem hlt)).1, fun H' => ∃ S3 vs1 rest, Ext S1 H1 S3 H' ∧ H' A = some (.lst (vs1.map (·.2))) ∧ S3 A = none ∧ OwnDL K Γ S3 H' (List.replicate (i + 1) e0) vs1 ∧ (A :: refsN vs1).Nodup ∧ (∀ q ∈ refsN vs1, H1 q = none ∧ S3 q = none) ∧ lcD h tsYes (fun _ => some .non) (wipeE δ vs) (ds.drop (i + 1)) = some rest,
      fun H' q => ⟨ds.length - (i + 1), by omega, rfl, hlt, q⟩, fun x H3 y => ?_⟩
    obtain ⟨S3, x3, r3⟩ := (at_.go i ds[i] (List.getElem?_eq_getElem hlt)).2 x H3 y
    rw [List.drop_eq_getElem_cons hlt] at e3
    obtain ⟨δ4, e5, e6⟩ := bind_some e3
    have e6 : (some D.non).bind (fun y => (lcD h tsYes (fun _ => some .non) (wipeE δ vs) (ds.drop (i + 1))).map (y :: ·)) = some rest := e6
    obtain ⟨rest', q5, _⟩ := map_some (show (lcD h tsYes (fun _ => some .non) (wipeE δ vs) (ds.drop (i + 1))).map (D.non :: ·) = some rest from e6)
    refine hg S0 H0 S3 H3 _ _ x ds[i] _ δ4 ((w2.mono x3).wipe vs) r3 e5 fun σ4 w4 u4 => ⟨(u4 vs hw).trans (wipe_wipe σ vs), ?_⟩
    unfold tYes
    dsimp only
    rw [if_pos rfl]
    refine ⟨Nat.zero_le _, fun p hp => ?_⟩
    have x23 := x2.trans x3
    have hA3 := x3.hh _ _ hA2
    have nA : A ≠ p := fun z => by rw [z, hp] at hA3; cases hA3
    have xp : Ext S3 H3 S3 (upd H3 p (.lst [])) := Ext.owned x23.sh hp _
    have np1 : H1 p = none := x23.hh.free hp
    have l1 : vs1.length = i := by rw [r2.len, List.length_replicate]
    have nr : p ∉ refsN vs1 := fun z => by
      obtain ⟨o, ho, _⟩ := (r2.keep x3).there p z
      rw [hp] at ho; cases ho
    have hr : refsN (vs1 ++ [((.inl 0 : Key), V.ref p)]) = refsN vs1 ++ [p] := by unfold refsN; rw [List.flatMap_append]; rfl
    refine ⟨vs1.map (·.2), by rw [upd_ne nA]; exact hA3, by rw [List.length_map, l1]; have := ok.1; omega, S3, vs1 ++ [(.inl 0, .ref p)], rest', ?_, by rw [upd_same, List.map_append]; rfl, x3.fr _ _ hA2 rfl sA2, ?_, ?_, ?_, q5⟩
    · refine ⟨x23.ss, fun c o z => (upd_ne (fun e => by subst e; rw [hA] at z; cases z)).trans ((upd_ne (fun e => by subst e; rw [np1] at z; cases z)).trans (x23.hh _ _ z)), fun c o z => ?_, x23.fr⟩
      have nc : c ≠ A := fun e => by subst e; rw [x3.fr _ _ hA2 rfl sA2] at z; cases z
      rw [upd_ne nc, upd_ne (fun e => by subst e; rw [x23.sh.free hp] at z; cases z)]; exact x23.sh _ _ z
    · rw [List.replicate_succ']
      refine OwnDL.snoc (by rw [upd_ne nA.symm, upd_same]) ((r2.keep (x3.trans xp)).same (Same.refl _) fun q hq o ho => ?_)
      rw [upd_ne fun z => (List.nodup_cons.mp nd2).1 (by rw [← z]; exact hq)]; exact ho
    · rw [hr, ← List.cons_append]
      refine List.nodup_append.mpr ⟨nd2, by simp, fun a ha b hb => ?_⟩
      rw [List.mem_singleton.mp hb]
      intro z
      rcases List.mem_cons.mp ha with rfl | ha
      · exact nA z
      · exact nr (z ▸ ha)
    · intro c hc
      rw [hr] at hc
      rcases List.mem_append.mp hc with hc | hc
      · refine ⟨(fr2 c hc).1, ?_⟩
        obtain ⟨o, ho, ht⟩ := r2.there c hc
        exact x3.fr c o ho ht (fr2 c hc).2
      · rw [List.mem_singleton.mp hc]; exact ⟨np1, x23.sh.free hp⟩
  · have e : i = ds.length := by omega
    subst e
    have hn : nstO false vs1 = .lst (vs1.map (·.2)) := rfl
    have eo : (out.map fun _ => e0) = List.replicate ds.length e0 := by rw [List.map_const', lcD_yes q]
    have hf : foot Γ H2 A (.nst false (out.map fun _ => e0)) = A :: refsN vs1 := nst_foot (by rw [hn]; exact hA2)
    refine .inl ⟨at_.stop, k _ S2 H2 (x1.trans x2) ⟨A, rfl, fun p hp => ?_, vs1, hA2, by rw [eo, List.length_replicate]; exact ok.1, by rw [eo]; exact r2, nd2⟩ fun _ a ea p hp => ?_⟩
    · rw [hf] at hp
      rcases List.mem_cons.mp hp with rfl | hp
      · exact sA2
      · exact (fr2 p hp).2
    · cases ea
      rw [hf] at hp
      rcases List.mem_cons.mp hp with rfl | hp
      · exact x1.hh.free hA
      · exact x1.hh.free (fr2 p hp).1
theorem ds_setLcN {tg iter : Expr} {g : TG} {h : Hv} {ws : List Nat} {Mz : List Mode} {i : Nat} {y : Str} {py spos kp : Pos} {scope : Scope} {own : List (Str × Nat)} {wi : TI} {it : Env → Option (List D)} (hc : X.calm = true) (hN : X.N.Nodup) (ok : BlkOk X.N X.env.scope scope own) (hi : DIC Γ X M tg iter wi it)
    (hg : ∀ (s : Shared) (H : Hp) (C : Addr) (cl : List (Str × Addr)) (fp : List Addr), DG Γ (X.blk s H scope (compEnvC scope cl C X.env) fp) M tg g h M1 ws) (hM : M.set i .ow = Mz := by rfl) (hw : ∀ i ∈ ws, i ∈ own.map (·.2) := by decide) (hy : X.N[i]? = some y := by rfl) (hyl : X.env.scope.names.lookup y = some .local := by rfl) (hl : i < M.length := by decide)
    (hsw : swapsWith (.ListComp (.List [] kp) [⟨tg, iter, [], 0⟩] scope pos) (some (.Name y py)) spos.line X.env = pure true := by exact sw_true rfl rfl rfl (by decide +kernel)) (hs : ∀ x, foldedSetIterable iter X.env x = pure x := by intro _; rfl) :
    DS Γ X E rm M (.Assign [.Name y py] (.ListComp (.List [] kp) [⟨tg, iter, [], 0⟩] scope pos) spos) (tAsg (tLc wi g tYes (tLst tNil) (own.map (·.2))) (gName i)) (sSet i (vLcN it h (own.map (·.2)))) Mz [i] :=
  ⟨ps_setLc hc hN hy hyl hsw hi.pi ok (fun s H C cl fp => (hg s H C cl fp).pg) (fun s H C cl fp => pts_nil) (fun s H C cl fp => pe_lst pa_nil) hs,
    hM ▸ snd_set hl (.inl rfl) (snd_lcN hi.snd (hg X.s_0 X.H_0 0 [] []).snd hw)⟩
/-- {} -/
theorem de_nst0 : DE Γ X M (.Dict [] [] pos) tDNewK (vC (.nst true [])) .ow := ⟨pe_dnewK, fun S0 H0 S H σ δ Q d w ef k => by
  cases ef
  intro p hp
  have hf : foot Γ (upd H p (.dK [])) p (.nst true []) = [p] := nst_foot (b := true) (vs := []) (show upd H p (.dK []) p = some (nstO true []) from upd_same)
  refine k (.ref p) S _ (Ext.owned w.sH hp _) ⟨p, rfl, fun q hq => ?_, [], upd_same, Nat.zero_le _, rfl, by simp⟩ fun _ a ea q hq => ?_
  · rw [hf] at hq; rw [List.mem_singleton.mp hq]; exact w.sH.free hp
  · cases ea; rw [hf] at hq; rw [List.mem_singleton.mp hq]; exact hp⟩
theorem RepN.lists {K : PySem.W.Frag} {S : Hp} : ∀ {kvs : List (Key × List D)} {vs : List (Key × V)}, RepN K Γ S kvs vs → RepL K Γ S (kvs.map fun p => D.lst p.2) (vs.map (·.2))
  | [], _, h => by rw [show _ = [] from h]; rfl
  | (k, e) :: r, _, ⟨q, us, ws, e1, h, l, rr, t⟩ => by subst e1; exact ⟨.ref q, ws.map (·.2), rfl, ⟨q, us, rfl, h, l, rr⟩, RepN.lists t⟩
theorem RepN.len {K : PySem.W.Frag} {S : Hp} : ∀ {kvs : List (Key × List D)} {vs : List (Key × V)}, RepN K Γ S kvs vs → vs.length = kvs.length
  | [], _, h => by rw [show _ = [] from h]; rfl
  | (k, e) :: r, _, ⟨q, us, ws, e1, h, l, rr, t⟩ => by subst e1; rw [List.length_cons, List.length_cons, RepN.len t]
/-- a list of lists of one's own is handed back -/
def sRetPl (i : Nat) : Sv := fun δ => (vVar i δ).bind fun d => match d with
  | .nst false kvs => some (.rt (.lst (kvs.map fun p => D.lst p.2)))
  | _ => none
theorem ds_retPl {xo : List Nat} {i : Nat} {x : Str} {p' : Pos} (hM : md M i = .ow := by rfl) (hN : X.N[i]? = some x := by rfl) (hv : Vis X.env.scope x := by first | exact Or.inl rfl | exact Or.inr (Or.inl rfl) | exact Or.inr (Or.inr rfl)) (hd : (x == ("__debug__" : Str)) = false := by decide) (hcd : (x == ("__classdict__" : Str)) = false := by decide) :
    DS Γ X E ⟨.sh, [], xo⟩ M (.Return (some (.Name x p')) pos) (tRet (tVar i)) (sRetPl i) M1 [] := ⟨ps_ret (pe_var hN hv hd hcd), fun S0 H0 S H σ δ Dn o w ef k => by
  obtain ⟨d, q1, q2⟩ := bind_some ef
  have hl := vVar_some q1
  cases d with
  | nst b kvs =>
    cases b with
    | true => cases q2
    | false =>
      cases q2
      obtain ⟨a, hp, n, t⟩ := w.owned hM hl
      have ow := w.own i _ a hl hM hp
      obtain ⟨S', ss, s2, ⟨a', vs, ea, hS, hl2, rr⟩, off⟩ := t.share w.sH n
      cases ea
      have hS : S' a = some (.lst (vs.map (·.2))) := hS
      refine ⟨_, hp, k (.ref a) S' H σ ss ⟨w.ext.ss.trans ss, w.ext.hh, s2, fun b o hb tt nb => ?_⟩ Fr.refl ⟨⟨a, vs.map (·.2), rfl, hS, by rw [List.length_map]; exact hl2, rr.lists⟩, fun z => by cases z⟩⟩
      rw [off b fun z => by rw [ow b z] at hb; cases hb]
      exact w.ext.fr b o hb tt nb
  | _ => cases q2⟩
end
end Dl
set_option maxHeartbeats 1000000
/-! instances of one's own: their fields, read and changed. -/
namespace Dl
open PySem L2 PyProof.Rows
/-- the first field of that name gets another datum -/
def setFD (f : Str) (d : D) : List (Str × D) → List (Str × D)
  | [] => []
  | (g, x) :: r => if g = f then (g, d) :: r else (g, x) :: setFD f d r
theorem ifN {α : Type} {c : Prop} [Decidable c] {a : Option α} {d : α} (h : (if c then a else none) = some d) : c ∧ a = some d := by
  by_cases q : c
  · rw [if_pos q] at h; exact ⟨q, h⟩
  · rw [if_neg q] at h; cases h
section
variable {K : PySem.W.Frag} {Γ : CM} {S0 H0 S H S' H' : Hp} {σ : L2.St} {M : List Mode} {δ : Env} {i : Nat} {c x : Str} {fs : List (Str × D)} {a : Addr} {mu : Str → Ow}
theorem TopL.at {p : Addr} {d : D} (t : TopL K Γ S H p d) : TopAt K Γ S H p d := by
  cases d with
  | lst ds => exact t
  | dicK ds => exact t
  | dicT ds => exact t
  | _ => exact t.elim
/-- a field that is a list or dict of its own: where it lies; how it is changed -/
theorem OwnFs.fld (hmu : mu x = .top) : ∀ {fs : List (Str × D)} {ws : List (Str × V)} {d : D}, OwnFs K Γ S H mu fs ws → (footFs H mu ws).Nodup → fs.lookup x = some d →
    ∃ p, ws.lookup x = some (.ref p) ∧ p ∈ footFs H mu ws ∧ TopL K Γ S H p d ∧ ∀ o d', TopL K Γ S (upd H p o) p d' → OwnFs K Γ S (upd H p o) mu (setFD x d' fs) ws ∧ footFs (upd H p o) mu ws = footFs H mu ws
  | [], _, _, _, _, h => by cases h
  | (n, y) :: fs, _, d, ⟨v, ws, e, r, t⟩, nd, h => by
    subst e
    have nd : (footF H (mu n) v ++ footFs H mu ws).Nodup := nd
    obtain ⟨n1, n2, n3⟩ := List.nodup_append.mp nd
    rw [List.lookup_cons] at h
    cases q : x == n with
    | true =>
      rw [q] at h; cases h
      have en := eq_of_beq q
      subst en
      rw [hmu] at r
      obtain ⟨p, rfl, tp⟩ := r
      have ef : ∀ H : Hp, footF H (mu x) (.ref p) = [p] := fun H => by rw [hmu]; rfl
      refine ⟨p, by rw [List.lookup_cons, q], (show p ∈ footF H (mu x) (.ref p) ++ footFs H mu ws from List.mem_append_left _ (by rw [ef]; exact List.mem_singleton.mpr rfl)), tp, fun o d' t' => ?_⟩
      have sm := t.same (H' := upd H p o) (Same.refl _) fun z hz o' ho => by
        rw [upd_ne fun e => n3 p (by rw [ef]; exact List.mem_singleton.mpr rfl) z hz e.symm]; exact ho
      refine ⟨?_, ?_⟩
      · unfold setFD; rw [if_pos rfl]
        exact ⟨_, _, rfl, by rw [hmu]; exact ⟨p, rfl, t'⟩, sm.1⟩
      · show footF (upd H p o) (mu x) (.ref p) ++ footFs (upd H p o) mu ws = footF H (mu x) (.ref p) ++ footFs H mu ws
        rw [ef, ef, sm.2]
    | false =>
      rw [q] at h
      have ne : ¬ n = x := fun e => by rw [e, beq_self_eq_true] at q; cases q
      obtain ⟨p, h1, h2, h3, h4⟩ := OwnFs.fld hmu t n2 h
      refine ⟨p, by rw [List.lookup_cons, q]; exact h1, List.mem_append_right _ h2, h3, fun o d' t' => ?_⟩
      obtain ⟨g1, g2⟩ := h4 o d' t'
      have sm := r.same (H' := upd H p o) (Same.refl _) fun z hz o' ho => by
        rw [upd_ne fun e => n3 z hz p h2 e]; exact ho
      refine ⟨?_, ?_⟩
      · unfold setFD; rw [if_neg ne]
        exact ⟨_, _, rfl, sm.1, g1⟩
      · show footF (upd H p o) (mu n) v ++ footFs (upd H p o) mu ws = footF H (mu n) v ++ footFs H mu ws
        rw [sm.2, g2]
theorem ins_foot {C dx : Addr} {ws : List (Str × V)} (e : H a = some (.ins C dx ws)) : foot Γ H a (.ins c fs) = a :: footFs H (Γ.mu c) ws := by
  show a :: footI Γ H c (H a) = _
  rw [e]; rfl
/-- what is known of a slot that holds an instance of one's own -/
theorem Wd.ins (w : Wd K Γ S0 H0 S H σ M δ) (hm : md M i = .ow) (hd : δ[i]? = some (some (.ins c fs))) : ∃ a C dx ws, σ[i]? = some (some (.ref a)) ∧ H a = some (.ins C dx ws) ∧ iM Γ c = some C ∧ OwnFs K Γ S H (Γ.mu c) fs ws ∧ (a :: footFs H (Γ.mu c) ws).Nodup := by
  obtain ⟨a, h1, _, C, dx, ws, h2, h3, h4, h5⟩ := w.owned hm hd
  exact ⟨a, C, dx, ws, h1, h2, h3, h4, h5⟩
/-- a field that is a list or dict of its own is changed in its place -/
theorem Wd.fld {d d' : D} {C dx : Addr} {ws : List (Str × V)} (w : Wd K Γ S0 H0 S H σ M δ) (hm : md M i = .ow) (hd : δ[i]? = some (some (.ins c fs))) (hs : σ[i]? = some (some (.ref a))) (hH : H a = some (.ins C dx ws)) (hmu : Γ.mu c x = .top) (hf : fs.lookup x = some d) :
    ∃ p, ws.lookup x = some (.ref p) ∧ TopL K Γ S H p d ∧ ∀ o, TopL K Γ S (upd H p o) p d' → Wd K Γ S0 H0 S (upd H p o) σ M (δ.set i (some (.ins c (setFD x d' fs)))) := by
  obtain ⟨_, C', dx', ws', h2, h3, h4, h5⟩ := w.top hm hd hs
  rw [hH] at h2; cases h2
  obtain ⟨na, nd⟩ := List.nodup_cons.mp h5
  obtain ⟨p, q1, q2, q3, q4⟩ := h4.fld hmu nd hf
  refine ⟨p, q1, q3, fun o t => ?_⟩
  obtain ⟨g1, g2⟩ := q4 o d' t
  have ne : a ≠ p := fun z => na (z ▸ q2)
  have ha : upd H p o a = some (.ins C dx ws) := by rw [upd_ne ne]; exact hH
  refine w.change1 hm hd hs (fun b o' ho z => ?_) ⟨C, dx, ws, ha, h3, g1, by rw [g2]; exact h5⟩ fun b hb => ?_
  · rw [upd_ne fun y => z (by rw [ins_foot hH, y]; exact List.mem_cons_of_mem _ q2)]; exact ho
  · rw [ins_foot ha, g2] at hb
    rw [ins_foot hH]; exact .inl hb
end
/-! ### reading -/
structure ClsOkO (K : PySem.W.Frag) (Γ : CM) (c : Str) (x : Str) : Prop where
  ok : ∀ C, iM Γ c = some C → Cls K C ∧ NoAttr K C x
  mu : Γ.mu c x = .top ∨ Γ.mu c x = .sh
def okO : Mode → Bool
  | .bo => true
  | .rd => true
  | _ => false
section
variable {X : Cx} {Γ : CM} {E : WX} {rm : RM} {M M1 : List Mode} {e e1 e2 : Expr} {t t1 t2 : TE} {f f1 f2 : Ev} {m m1 m2 : Mode} {pos apos cpos p2 : Pos}
theorem OwnF.rd {K : PySem.W.Frag} {S H : Hp} {k : Ow} {d : D} {v : V} (h : k = .top ∨ k = .sh) (r : OwnF K Γ S H k d v) : Rep K Γ S d v ∨ ∃ a, v = .ref a ∧ TopAt K Γ S H a d := by
  rcases h with rfl | rfl
  · obtain ⟨p, ev, t⟩ := r; exact .inr ⟨p, ev, t.at⟩
  · exact .inl r
def hmH (m : Mode) (H0 H : Hp) : Hp := match m with | .bo => H0 | _ => H
theorem RepM.or {K : PySem.W.Frag} {H0 S H : Hp} {d : D} {v : V} (hm : okO m = true) (r : RepM K Γ H0 S H m d v) : Rep K Γ S d v ∨ ∃ a, v = .ref a ∧ TopAt K Γ S (hmH m H0 H) a d := by
  cases m <;> first | exact r | cases hm
theorem RepM.ofOr {K : PySem.W.Frag} {H0 S H : Hp} {d : D} {v : V} (hm : okO m = true) (r : Rep K Γ S d v ∨ ∃ a, v = .ref a ∧ TopAt K Γ S (hmH m H0 H) a d) : RepM K Γ H0 S H m d v := by
  cases m <;> first | exact r | cases hm
theorem hmH_sub {H0 H : Hp} (h : Same H0 H) : Same (hmH m H0 H) H := by cases m <;> first | exact h | exact Same.refl _
theorem de_fldO {x : Str} (T : ∀ c, ClsOkO X.K Γ c x) (ha : DE Γ X M e t f m) (hm : okO m = true := by rfl) (hb : attributeBase e x X.env (eval e X.env) = eval e X.env := by rfl) : DE Γ X M (.Attribute e x pos) (tFld X.K t x) (vFld x f) m := ⟨pe_fld ha.pe hb, fun S0 H0 S H σ δ Q d w ef k => by
  obtain ⟨o, e1, e3⟩ := bind_some ef
  obtain ⟨fs, e4, e2⟩ := bind_some e3
  have no : m ≠ .ow := fun z => by subst z; cases hm
  cases o with
  | ins c fs' =>
    cases e4
    refine ha.snd S0 H0 S H σ δ _ _ w e1 fun v S1 H1 x1 r1 _ => ?_
    have w1 := w.mono x1
    rcases r1.or hm with ⟨a, C, dx, ws, ev, g, h, r⟩ | ⟨a, ev, C, dx, ws, h, g, r, _⟩
    · obtain ⟨z, ez, rz⟩ := r.look e2
      exact ⟨a, C, dx, ws, z, ev, x1.sh _ _ h, ((T c).ok C g).1, ((T c).ok C g).2, ez, (k.ext x1).same x1.sh (RepM.ofOr hm (.inl rz)) no⟩
    · obtain ⟨z, ez, rz⟩ := r.look e2
      exact ⟨a, C, dx, ws, z, ev, hmH_sub w1.h0 _ _ h, ((T c).ok C g).1, ((T c).ok C g).2, ez, (k.ext x1).same x1.sh (RepM.ofOr hm (rz.rd (T c).mu)) no⟩
  | slf b c fs' =>
    cases e4
    refine ha.snd S0 H0 S H σ δ _ _ w e1 fun v S1 H1 x1 r1 _ => ?_
    have w1 := w.mono x1
    rcases r1.or hm with ⟨a, C, dx, ws, ev, g, h, r, _⟩ | ⟨a, ev, C, dx, ws, h, g, r, _⟩
    · obtain ⟨z, ez, rz⟩ := r.look e2
      exact ⟨a, C, dx, ws, z, ev, x1.sh _ _ h, ((T c).ok C g).1, ((T c).ok C g).2, ez, (k.ext x1).same x1.sh (RepM.ofOr hm (.inl rz)) no⟩
    · obtain ⟨z, ez, rz⟩ := r.look e2
      exact ⟨a, C, dx, ws, z, ev, hmH_sub w1.h0 _ _ h, ((T c).ok C g).1, ((T c).ok C g).2, ez, (k.ext x1).same x1.sh (RepM.ofOr hm (.inl rz)) no⟩
  | _ => cases e4⟩
theorem de_fldKO (K : PySem.W.Frag) {x : Str} (T : ∀ c, ClsOkO K Γ c x) (ha : DE Γ X M e t f m) (hm : okO m = true := by rfl) (hb : attributeBase e x X.env (eval e X.env) = eval e X.env := by rfl) (hK : X.K = K := by rfl) : DE Γ X M (.Attribute e x pos) (tFld K t x) (vFld x f) m := by subst hK; exact de_fldO T ha hm hb
/-! ### what is changed in a field -/
def insAt (c : Str) (i : Nat) : Env → Option (List (Str × D)) := fun δ => (vVar i δ).bind fun o => match o with
  | .ins c' fs => if c' = c then some fs else none
  | _ => none
theorem insAt_some {c : Str} {i : Nat} {δ : Env} {fs : List (Str × D)} (h : insAt c i δ = some fs) : δ[i]? = some (some (.ins c fs)) := by
  obtain ⟨o, e1, e2⟩ := bind_some h
  cases o with
  | ins c' fs' =>
    obtain ⟨ec, ef⟩ := ite_some (show (if c' = c then some fs' else none) = some fs from e2)
    subst ec ef
    exact vVar_some e1
  | _ => cases e2
/-- what a field's place asks -/
structure FldT (K : PySem.W.Frag) (Γ : CM) (c x : Str) : Prop where
  ok : ∀ C, iM Γ c = some C → Cls K C ∧ NoAttr K C x
  mu : Γ.mu c x = .top
/-! self.f.append(e) -/
def sFApp (i : Nat) (c x : Str) (f : Ev) : Sv := fun δ => (insAt c i δ).bind fun fs => (fs.lookup x).bind fun l => match l with
  | .lst ds => (f δ).bind fun d => if ds.length < sizeLine then some (.nx (δ.set i (some (.ins c (setFD x (.lst (ds ++ [d])) fs))))) else none
  | _ => none
theorem ds_fApp (K : PySem.W.Frag) {i : Nat} {c n x : Str} {p fpos : Pos} (hM : md M i = .ow) (T : FldT K Γ c x) (he : DE Γ X M e t f m) (hm : okS m = true := by rfl) (hN : X.N[i]? = some n := by rfl) (hv : Vis X.env.scope n := by first | exact Or.inl rfl | exact Or.inr (Or.inl rfl) | exact Or.inr (Or.inr rfl)) (hd : (n == ("__debug__" : Str)) = false := by decide)
    (hcd : (n == ("__classdict__" : Str)) = false := by decide) (hb : attributeBase (.Name n p) x X.env (eval (.Name n p) X.env) = eval (.Name n p) X.env := by rfl) (hbase : attributeBase (.Attribute (.Name n p) x fpos) "append" X.env (eval (.Attribute (.Name n p) x fpos) X.env) = eval (.Attribute (.Name n p) x fpos) X.env := by rfl)
    (hfew : (((backTo cpos (starEach [e] X.env)).all (!·.1)) && ((backToKw cpos (keywordEach [] X.env)).all (·.1.isSome)) && decide (([e].length + ([] : List Keyword).length + if ([] : List Keyword).isEmpty = true then 0 else 1) < 30)) = true := by rfl) (hline : (apos.endLine == cpos.line) = true := by rfl)
    (h3 : starEach [e] X.env = (false, eval e X.env) :: starEach [] X.env := by rfl) (h4 : (backTo cpos (starEach [] X.env)).any (·.1) = false := by rfl) (hs : swapsWith (.Call (.Attribute (.Attribute (.Name n p) x fpos) "append" apos) [e] [] cpos) none pos.line X.env = pure false := by rfl) (hK : X.K = K := by rfl) :
    DS Γ X E rm M (.Expr (.Call (.Attribute (.Attribute (.Name n p) x fpos) "append" apos) [e] [] cpos) pos) (tDrop (tBM K "list" rAppend (tFld K (tVar i) x) (tCons t tNil))) (sFApp i c x f) M [] := by
  subst hK
  refine ⟨ps_expr (pe_bm PySem.F.plainAttrs_list PySem.F.slot_list_append PySem.F.type_list_append mt_append (pe_fld (pe_var hN hv hd hcd) hb) (pa_cons he.pe pa_nil h3) hbase hfew hline h3 h4) hs, fun S0 H0 S H σ δ Dn o w ef k => ?_⟩
  obtain ⟨fs, q1, q2⟩ := bind_some ef
  have hl := insAt_some q1
  obtain ⟨ld, q3, q4⟩ := bind_some q2
  cases ld with
  | lst ds =>
    obtain ⟨d, q5, q6⟩ := bind_some q4
    obtain ⟨hz, rfl⟩ := ite_some q6
    obtain ⟨a, C, dx, ws, hp, hH, hg, hO, nd⟩ := w.ins hM hl
    obtain ⟨p', z1, z2, _⟩ := w.fld (d' := .lst (ds ++ [d])) hM hl hp hH T.mu q3
    obtain ⟨us, z3, z4, z5⟩ := z2
    refine ⟨_, hp, a, C, dx, ws, _, rfl, hH, (T.ok C hg).1, (T.ok C hg).2, z1, .inl ⟨rfl, us, SqL.of z3⟩, ?_⟩
    refine (he.snd.sh hm) S0 H0 S H σ δ _ d w q5 fun v S1 H1 x1 r1 _ => ?_
    have w1 := w.mono x1
    obtain ⟨p2, y1, y2, y3⟩ := w1.fld (d' := .lst (ds ++ [d])) hM hl hp (x1.hh _ _ hH) T.mu q3
    rw [z1] at y1; cases y1
    refine ⟨p', us, v, rfl, rfl, x1.hh _ _ z3, by rw [z5.length]; exact hz, ?_⟩
    exact k S1 _ σ x1.ss (y3 _ ⟨us ++ [v], upd_same, by rw [List.length_append, List.length_singleton]; omega, (z5.mono x1.ss).append (RepL.one r1)⟩) Fr.refl
  | _ => cases q4
/-! self.f[k] = e -/
def sFPut (i : Nat) (c x : Str) (fk fe : Ev) : Sv := fun δ => (fe δ).bind fun d => (insAt c i δ).bind fun fs => (fs.lookup x).bind fun l => (fk δ).bind fun kd => (opPut l kd d).map fun l' => .nx (δ.set i (some (.ins c (setFD x l' fs))))
theorem ds_fPut (K : PySem.W.Frag) {i : Nat} {c n x : Str} {p fpos : Pos} (hM : md M i = .ow) (T : FldT K Γ c x) (hu : X.A.units + 64 < cLine) (hk : DE Γ X M e1 t1 f1 m1) (he : DE Γ X M e2 t2 f2 m2) (hm : okS m1 = true := by rfl) (hm' : okS m2 = true := by rfl) (hN : X.N[i]? = some n := by rfl) (hv : Vis X.env.scope n := by first | exact Or.inl rfl | exact Or.inr (Or.inl rfl) | exact Or.inr (Or.inr rfl)) (hd : (n == ("__debug__" : Str)) = false := by decide)
    (hcd : (n == ("__classdict__" : Str)) = false := by decide) (hb : attributeBase (.Name n p) x X.env (eval (.Name n p) X.env) = eval (.Name n p) X.env := by rfl)
    (ha : ∀ v, assign (.Subscript (.Attribute (.Name n p) x fpos) e1 apos) X.env v = (do
      let ov ← holding [v] (eval (.Attribute (.Name n p) x fpos) X.env)
      let iv ← holding [v, ov] (eval e1 X.env)
      standAt apos
      holding [v, ov, iv] (setItem ov iv v)
      release [v, ov, iv] []) := by intro _; rfl) (hs : swapsWithSole [.Subscript (.Attribute (.Name n p) x fpos) e1 apos] e2 pos.line X.env = pure false := by rfl) (hw : swappedStores [.Subscript (.Attribute (.Name n p) x fpos) e1 apos] e2 X.env = pure none := by rfl)
    (h1 : (assignEach [.Subscript (.Attribute (.Name n p) x fpos) e1 apos] X.env).map (·.2) = [assign (.Subscript (.Attribute (.Name n p) x fpos) e1 apos) X.env] := by rfl) (hK : X.K = K := by rfl) :
    DS Γ X E rm M (.Assign [.Subscript (.Attribute (.Name n p) x fpos) e1 apos] e2 pos) (tAsg t2 (gSub (tFld K (tVar i) x) t1 rSetAny)) (sFPut i c x f1 f2) M [] := by
  subst hK
  refine ⟨ps_asg he.pe (pg_sub (pe_fld (pe_var hN hv hd hcd) hb) hk.pe (set_any hu) ha) hs hw h1, fun S0 H0 S H σ δ Dn o w ef k => ?_⟩
  obtain ⟨d, q1, q2⟩ := bind_some ef
  obtain ⟨fs, q3, q4⟩ := bind_some q2
  obtain ⟨l, q5, q6⟩ := bind_some q4
  obtain ⟨kd, q7, q8⟩ := bind_some q6
  obtain ⟨l', q9, rfl⟩ := map_some q8
  have hl := insAt_some q3
  refine (he.snd.sh hm') S0 H0 S H σ δ _ d w q1 fun v S1 H1 x1 r1 _ => ?_
  have w1 := w.mono x1
  obtain ⟨a, C, dx, ws, hp, hH, hg, hO, nd⟩ := w1.ins hM hl
  obtain ⟨p', z1, z2, _⟩ := w1.fld (d' := l') hM hl hp hH T.mu q5
  refine ⟨_, hp, a, C, dx, ws, _, rfl, hH, (T.ok C hg).1, (T.ok C hg).2, z1, ?_⟩
  refine (hk.snd.sh hm) S0 H0 S1 H1 σ δ _ kd w1 q7 fun u S2 H2 x2 r2 _ => ?_
  have w2 := w1.mono x2
  have r1 := Rep.mono x2.ss r1
  have ss : Same S S2 := x1.ss.trans x2.ss
  obtain ⟨p2, y1, y2, y3⟩ := w2.fld (d' := l') hM hl hp (x2.hh _ _ hH) T.mu q5
  rw [z1] at y1; cases y1
  cases l with
  | lst ds =>
    obtain ⟨vs, hH2, hz, rl⟩ := y2
    cases kd with
    | int j =>
      obtain ⟨q, e8, rfl⟩ := map_some q9
      cases (show u = .int j from r2)
      exact .inl ⟨p', vs, j, q, rfl, rfl, hH2, by rw [rl.length]; exact e8, k S2 _ σ ss (y3 _ ⟨_, upd_same, by rw [List.length_set]; exact hz, rl.set r1 q⟩) Fr.refl⟩
    | _ => cases q9
  | dicK kvs =>
    obtain ⟨vs, hH2, rl⟩ := y2
    obtain ⟨j, e8, e9⟩ := bind_some q9
    obtain ⟨hz, rfl⟩ := ite_some e9
    rw [r2.key e8]
    exact .inr ⟨p', _, rfl, DPut.k hH2 (by rw [rl.len]; exact hz), k S2 _ σ ss (y3 _ ⟨_, upd_same, rl.put r1⟩) Fr.refl⟩
  | dicT kvs =>
    obtain ⟨vs, hH2, rl⟩ := y2
    obtain ⟨j, e8, e9⟩ := bind_some q9
    obtain ⟨hz, rfl⟩ := ite_some e9
    obtain ⟨b, rfl, hb⟩ := r2.keys e8
    exact .inr ⟨p', _, rfl, DPut.t hH2 (w2.sH _ _ hb) (by rw [rl.len]; exact hz), k S2 _ σ ss (y3 _ ⟨_, upd_same, rl.put r1⟩) Fr.refl⟩
  | _ => cases q9
end
end Dl
set_option maxHeartbeats 1000000
/-! instances of one's own: fields of any kind are changed. -/
namespace Dl
open PySem L2 PyProof.Rows
section
variable {K : PySem.W.Frag} {Γ : CM} {S0 H0 S H S' H' : Hp} {σ : L2.St} {M : List Mode} {δ : Env} {i : Nat} {c x : Str} {fs : List (Str × D)} {a : Addr} {mu : Str → Ow}
theorem OwnFs.get : ∀ {fs : List (Str × D)} {ws : List (Str × V)} {d : D}, OwnFs K Γ S H mu fs ws → fs.lookup x = some d → ∃ v, ws.lookup x = some v ∧ OwnF K Γ S H (mu x) d v ∧ ∀ q ∈ footF H (mu x) v, q ∈ footFs H mu ws
  | [], _, _, _, h => by cases h
  | (n, y) :: fs, _, d, ⟨v, ws, e, r, t⟩, h => by
    subst e
    rw [List.lookup_cons] at h
    cases q : x == n with
    | true =>
      rw [q] at h; cases h
      have en := eq_of_beq q
      subst en
      exact ⟨v, by rw [List.lookup_cons, q], r, fun z hz => (show z ∈ footF H (mu x) v ++ footFs H mu ws from List.mem_append_left _ hz)⟩
    | false =>
      rw [q] at h
      obtain ⟨v', h1, h2, h3⟩ := OwnFs.get t h
      exact ⟨v', by rw [List.lookup_cons, q]; exact h1, h2, fun z hz => (show z ∈ footF H (mu n) v ++ footFs H mu ws from List.mem_append_right _ (h3 z hz))⟩
theorem OwnFs.getN : ∀ {fs : List (Str × D)} {ws : List (Str × V)} {d : D} {v : V}, OwnFs K Γ S H mu fs ws → (footFs H mu ws).Nodup → fs.lookup x = some d → ws.lookup x = some v → (footF H (mu x) v).Nodup
  | [], _, _, _, _, _, h, _ => by cases h
  | (n, y) :: fs, _, d, v, ⟨u, ws, e, r, t⟩, nd, h, hv => by
    subst e
    have nd : (footF H (mu n) u ++ footFs H mu ws).Nodup := nd
    obtain ⟨n1, n2, n3⟩ := List.nodup_append.mp nd
    rw [List.lookup_cons] at h hv
    cases q : x == n with
    | true =>
      rw [q] at hv; cases hv
      have en := eq_of_beq q
      subst en
      exact n1
    | false => rw [q] at h hv; exact OwnFs.getN t n2 h hv
/-- the part of a field is changed -/
theorem OwnFs.up (ss : Same S S') : ∀ {fs : List (Str × D)} {ws : List (Str × V)} {d d' : D} {v : V}, OwnFs K Γ S H mu fs ws → (footFs H mu ws).Nodup → fs.lookup x = some d → ws.lookup x = some v →
    (∀ q ∈ footFs H mu ws, q ∉ footF H (mu x) v → ∀ o, H q = some o → H' q = some o) → OwnF K Γ S' H' (mu x) d' v → (footF H' (mu x) v).Nodup → (∀ q ∈ footF H' (mu x) v, q ∈ footF H (mu x) v ∨ H q = none) →
    OwnFs K Γ S' H' mu (setFD x d' fs) ws ∧ (footFs H' mu ws).Nodup ∧ ∀ q ∈ footFs H' mu ws, (q ∈ footFs H mu ws ∧ q ∉ footF H (mu x) v) ∨ q ∈ footF H' (mu x) v
  | [], _, _, _, _, _, _, h, _, _, _, _, _ => by cases h
  | (n, y) :: fs, _, d, d', v, ⟨u, ws, e, r, t⟩, nd, h, hv, ag, new, ndn, sub => by
    subst e
    have nd : (footF H (mu n) u ++ footFs H mu ws).Nodup := nd
    have ag : ∀ q ∈ footF H (mu n) u ++ footFs H mu ws, q ∉ footF H (mu x) v → ∀ o, H q = some o → H' q = some o := ag
    obtain ⟨n1, n2, n3⟩ := List.nodup_append.mp nd
    have stands : ∀ q ∈ footFs H mu ws, H q ≠ none := fun q hq z => by
      obtain ⟨o, ho, _⟩ := t.there q hq; rw [z] at ho; cases ho
    rw [List.lookup_cons] at h hv
    cases q : x == n with
    | true =>
      rw [q] at h hv; cases h; cases hv
      have en := eq_of_beq q
      subst en
      have sm := t.same (H' := H') ss fun z hz o ho => ag z (List.mem_append_right _ hz) (fun y => n3 z y z hz rfl) o ho
      have ef : footFs H' mu ((x, v) :: ws) = footF H' (mu x) v ++ footFs H mu ws := by
        show footF H' (mu x) v ++ footFs H' mu ws = _
        rw [sm.2]
      refine ⟨?_, ?_, fun z hz => ?_⟩
      · unfold setFD; rw [if_pos rfl]; exact ⟨v, ws, rfl, new, sm.1⟩
      · rw [ef]
        refine List.nodup_append.mpr ⟨ndn, n2, fun z hz z' hz' e => ?_⟩
        subst e
        rcases sub z hz with y | y
        · exact n3 z y z hz' rfl
        · exact stands z hz' y
      · rw [ef] at hz
        rcases List.mem_append.mp hz with hz | hz
        · exact .inr hz
        · exact .inl ⟨(show z ∈ footF H (mu x) v ++ footFs H mu ws from List.mem_append_right _ hz), fun y => n3 z y z hz rfl⟩
    | false =>
      rw [q] at h hv
      have ne : ¬ n = x := fun e => by rw [e, beq_self_eq_true] at q; cases q
      obtain ⟨v', g1, g2, g3⟩ := OwnFs.get t h
      have ev : v' = v := Option.some.inj (g1.symm.trans hv)
      subst ev
      have dj : ∀ z ∈ footF H (mu n) u, z ∉ footF H (mu x) v' := fun z hz y => n3 z hz z (g3 z y) rfl
      have sm := r.same (H' := H') ss fun z hz o ho => ag z (List.mem_append_left _ hz) (dj z hz) o ho
      obtain ⟨k1, k2, k3⟩ := OwnFs.up ss t n2 h hv (fun z hz => ag z (List.mem_append_right _ hz)) new ndn sub
      have ef : footFs H' mu ((n, u) :: ws) = footF H (mu n) u ++ footFs H' mu ws := by
        show footF H' (mu n) u ++ footFs H' mu ws = _
        rw [sm.2]
      have st2 : ∀ z ∈ footF H (mu n) u, H z ≠ none := fun z hz y => by
        obtain ⟨o, ho, _⟩ := r.there z hz; rw [y] at ho; cases ho
      refine ⟨?_, ?_, fun z hz => ?_⟩
      · unfold setFD; rw [if_neg ne]; exact ⟨u, ws, rfl, sm.1, k1⟩
      · rw [ef]
        refine List.nodup_append.mpr ⟨n1, k2, fun z hz z' hz' e => ?_⟩
        subst e
        rcases k3 z hz' with ⟨y, _⟩ | y
        · exact n3 z hz z y rfl
        · rcases sub z y with y | y
          · exact dj z hz y
          · exact st2 z hz y
      · rw [ef] at hz
        rcases List.mem_append.mp hz with hz | hz
        · exact .inl ⟨(show z ∈ footF H (mu n) u ++ footFs H mu ws from List.mem_append_left _ hz), dj z hz⟩
        · rcases k3 z hz with ⟨y, y'⟩ | y
          · exact .inl ⟨(show z ∈ footF H (mu n) u ++ footFs H mu ws from List.mem_append_right _ y), y'⟩
          · exact .inr y
theorem Wd.fldUp {d : D} {C dx : Addr} {ws : List (Str × V)} (w : Wd K Γ S0 H0 S H σ M δ) (hm : md M i = .ow) (hd : δ[i]? = some (some (.ins c fs))) (hs : σ[i]? = some (some (.ref a))) (hH : H a = some (.ins C dx ws)) (hf : fs.lookup x = some d) :
    ∃ v, ws.lookup x = some v ∧ OwnF K Γ S H (Γ.mu c x) d v ∧ a ∉ footF H (Γ.mu c x) v ∧ (∀ q ∈ footF H (Γ.mu c x) v, S q = none) ∧ (footF H (Γ.mu c x) v).Nodup ∧ ∀ (S' H' : Hp) d', Same S S' → Same S' H' → (∀ q o, H q = some o → q ∉ footF H (Γ.mu c x) v → H' q = some o) → (∀ q, q ∉ footF H (Γ.mu c x) v → H q ≠ none → S' q = S q) → OwnF K Γ S' H' (Γ.mu c x) d' v →
      (footF H' (Γ.mu c x) v).Nodup → (∀ q ∈ footF H' (Γ.mu c x) v, (q ∈ footF H (Γ.mu c x) v ∨ H q = none) ∧ S' q = none) → Wd K Γ S0 H0 S' H' σ M (δ.set i (some (.ins c (setFD x d' fs)))) := by
  obtain ⟨hfree, C', dx', ws', h2, h3, h4, h5⟩ := w.top hm hd hs
  rw [hH] at h2; cases h2
  obtain ⟨na, nd⟩ := List.nodup_cons.mp h5
  obtain ⟨v, q1, q2, q3⟩ := h4.get hf
  have nav : a ∉ footF H (Γ.mu c x) v := fun z => na (q3 a z)
  have inF : ∀ q, q ∈ footFs H (Γ.mu c) ws → q ∈ foot Γ H a (.ins c fs) := fun q hq => by rw [ins_foot hH]; exact List.mem_cons_of_mem _ hq
  refine ⟨v, q1, q2, nav, fun q hq => hfree q (inF q (q3 q hq)), h4.getN nd hf q1, fun S' H' d' ss sh ag fr new ndn sub => ?_⟩
  obtain ⟨k1, k2, k3⟩ := h4.up ss nd hf q1 (fun q _ hq o ho => ag q o ho hq) new ndn fun q hq => (sub q hq).1
  have ha : H' a = some (.ins C dx ws) := ag a _ hH nav
  have li : i < δ.length := (List.getElem?_eq_some_iff.mp hd).1
  have hf' : foot Γ H' a (.ins c (setFD x d' fs)) = a :: footFs H' (Γ.mu c) ws := ins_foot ha
  refine w.change (I := fun j => j = i) ss sh (fun j e => e ▸ hm) (fun p o e z => ag p o e fun y => z i _ a rfl hd hs (inF p (q3 p y))) (fun p o e t n z => ?_) List.length_set (fun j nj => List.getElem?_set_ne fun e => nj e.symm) (fun j dj e h => ?_) (fun j dj b e h s p hp => ?_) (fun j k dj dk b c p e1 e2 _ _ _ _ _ _ => e1.trans e2.symm)
  · rw [fr p (fun y => z i _ a rfl hd hs (inF p (q3 p y))) (by rw [e]; simp)]; exact n
  · subst e
    rw [List.getElem?_set_self li] at h
    cases h
    refine ⟨a, hs, ⟨_, hd⟩, ⟨C, dx, ws, ha, h3, k1, List.nodup_cons.mpr ⟨fun z => ?_, k2⟩⟩, fun p hp => ?_⟩
    · rcases k3 a z with ⟨y, _⟩ | y
      · exact na y
      · rcases (sub a y).1 with y | y
        · exact nav y
        · rw [hH] at y; cases y
    · rw [hf'] at hp
      rcases List.mem_cons.mp hp with rfl | hp
      · rw [fr p nav (by rw [hH]; simp)]; exact hfree p self_foot
      · rcases k3 p hp with ⟨y, y'⟩ | y
        · obtain ⟨o, ho, _⟩ := h4.there p y
          rw [fr p y' (by rw [ho]; simp)]; exact hfree p (inF p y)
        · exact (sub p y).2
  · subst e
    rw [List.getElem?_set_self li] at h
    cases h
    have e : V.ref b = V.ref a := Option.some.inj (Option.some.inj (s.symm.trans hs))
    cases e
    rw [hf'] at hp
    rcases List.mem_cons.mp hp with rfl | hp
    · exact .inl ⟨j, _, p, rfl, hd, hs, self_foot⟩
    · rcases k3 p hp with ⟨y, _⟩ | y
      · exact .inl ⟨j, _, a, rfl, hd, hs, inF p y⟩
      · rcases (sub p y).1 with y | y
        · exact .inl ⟨j, _, a, rfl, hd, hs, inF p (q3 p y)⟩
        · exact .inr y
end
end Dl
set_option maxHeartbeats 1000000
/-! fields that are made; dicts of lists in fields. -/
namespace Dl
open PySem L2 PyProof.Rows
section
variable {K : PySem.W.Frag} {Γ : CM} {S0 H0 S H S' H' : Hp} {σ : L2.St} {M : List Mode} {δ : Env} {i : Nat} {c x : Str} {fs : List (Str × D)} {a : Addr} {mu : Str → Ow}
def okOw : Ow → D → Bool
  | .top, .lst _ => true
  | .top, .dicK _ => true
  | .top, .dicT _ => true
  | .dl, .nst true _ => true
  | _, _ => false
theorem OwnF.of {k : Ow} {p : Addr} {d : D} (h : okOw k d = true) (t : TopAt K Γ S H p d) : OwnF K Γ S H k d (.ref p) ∧ footF H k (.ref p) = foot Γ H p d ∧ (footF H k (.ref p)).Nodup := by
  cases k with
  | sh => cases d <;> cases h
  | top =>
    cases d with
    | lst ds => exact ⟨⟨p, rfl, t⟩, rfl, by simp [footF, refV]⟩
    | dicK ds => exact ⟨⟨p, rfl, t⟩, rfl, by simp [footF, refV]⟩
    | dicT ds => exact ⟨⟨p, rfl, t⟩, rfl, by simp [footF, refV]⟩
    | _ => cases h
  | dl =>
    cases d with
    | nst b kvs =>
      cases b with
      | false => cases h
      | true =>
        obtain ⟨vs, e, l, o, nd⟩ := t
        have e : H p = some (.dK vs) := e
        have ef : footF H .dl (.ref p) = p :: refsN vs := by
          show [p] ++ ([p].flatMap fun p => refsD (H p)) = _
          rw [List.flatMap_cons, List.flatMap_nil, List.append_nil, e]; rfl
        refine ⟨⟨p, kvs, vs, rfl, rfl, e, l, o⟩, ?_, by rw [ef]; exact nd⟩
        rw [ef, nst_foot (b := true) (vs := vs) e]
    | _ => cases h
theorem OwnFs.snoc {v : V} {d : D} (r : OwnF K Γ S H (mu x) d v) : ∀ {fs : List (Str × D)} {ws : List (Str × V)}, OwnFs K Γ S H mu fs ws → OwnFs K Γ S H mu (fs ++ [(x, d)]) (ws ++ [(x, v)])
  | [], _, h => by cases (show _ = [] from h); exact ⟨v, [], rfl, r, rfl⟩
  | (n, y) :: fs, _, ⟨u, ws, e, q, t⟩ => by subst e; exact ⟨u, ws ++ [(x, v)], rfl, q, OwnFs.snoc r t⟩
theorem putF_new {v : V} : ∀ {ws : List (Str × V)}, ws.lookup x = none → putF x v ws = ws ++ [(x, v)]
  | [], _ => rfl
  | (n, y) :: ws, h => by
    rw [List.lookup_cons] at h
    cases q : x == n with
    | true => rw [q] at h; cases h
    | false =>
      rw [q] at h
      have ne : ¬ n = x := fun e => by rw [e, beq_self_eq_true] at q; cases q
      unfold putF
      rw [if_neg ne, putF_new h]; rfl
theorem footFs_snoc {v : V} {ws : List (Str × V)} : footFs H mu (ws ++ [(x, v)]) = footFs H mu ws ++ footF H (mu x) v := by
  unfold footFs; rw [List.flatMap_append]; simp
end
section
variable {X : Cx} {Γ : CM} {E : WX} {rm : RM} {M M1 : List Mode} {e e1 e2 : Expr} {t t1 t2 : TE} {f f1 f2 : Ev} {m m1 m2 : Mode} {pos apos cpos p2 : Pos}
/-! self.f = e, a new field -/
def sFldN (i : Nat) (c x : Str) (k : Ow) (f : Ev) : Sv := fun δ => (insAt c i δ).bind fun fs => (f δ).bind fun d => if (fs.lookup x).isNone = true ∧ fs.length < 1000 ∧ (k = .sh ∨ okOw k d = true) then some (.nx (δ.set i (some (.ins c (fs ++ [(x, d)]))))) else none
def okNew : Ow → Mode → Bool
  | .sh, .sh => true
  | .top, .ow => true
  | .dl, .ow => true
  | _, _ => false
structure FldN (K : PySem.W.Frag) (Γ : CM) (c x : Str) (k : Ow) : Prop where
  ok : ∀ C, iM Γ c = some C → Cls K C ∧ NoAttr K C x
  mu : Γ.mu c x = k
theorem ds_fldN (K : PySem.W.Frag) {i : Nat} {c n x : Str} {k : Ow} {p : Pos} {pos' : Pos} (hM : md M i = .ow) (T : FldN K Γ c x k) (he : DE Γ X M e t f m) (hm : okNew k m = true := by rfl) (hN : X.N[i]? = some n := by rfl) (hv : Vis X.env.scope n := by first | exact Or.inl rfl | exact Or.inr (Or.inl rfl) | exact Or.inr (Or.inr rfl)) (hd : (n == ("__debug__" : Str)) = false := by decide)
    (hcd : (n == ("__classdict__" : Str)) = false := by decide) (hs : swapsWith e (some (.Attribute (.Name n p) x pos')) pos.line X.env = pure false := by rfl) (hK : X.K = K := by rfl) :
    DS Γ X E rm M (.Assign [.Attribute (.Name n p) x pos'] e pos) (sFld K (tVar i) t x) (sFldN i c x k f) M [] := by
  subst hK
  refine ⟨ps_fld (pe_var hN hv hd hcd) he.pe hs, fun S0 H0 S H σ δ Dn o w ef kk => ?_⟩
  obtain ⟨fs, q1, q2⟩ := bind_some ef
  obtain ⟨d, q3, q4⟩ := bind_some q2
  obtain ⟨⟨hn, hl, hok⟩, rfl⟩ := ite_some q4
  have hδ := insAt_some q1
  have li : i < δ.length := (List.getElem?_eq_some_iff.mp hδ).1
  obtain ⟨a, C, dx, ws, hp, hH, hg, hO, nd⟩ := w.ins hM hδ
  have hfree := (w.top hM hδ hp).1
  have hws : ws.lookup x = none := hO.lookN (by simpa using hn)
  have hlen : ws.length = fs.length := by
    have : ∀ {fs : List (Str × D)} {ws : List (Str × V)}, OwnFs X.K Γ S H (Γ.mu c) fs ws → ws.length = fs.length := by
      intro fs
      induction fs with
      | nil => intro ws h; rw [show ws = [] from h]; rfl
      | cons y fs ih => intro ws ⟨v, ws', e, r, t⟩; subst e; rw [List.length_cons, List.length_cons, ih t]
    exact this hO
  refine he.snd S0 H0 S H σ δ _ d w q3 fun v S1 H1 x1 r1 fr => ?_
  refine ⟨_, hp, a, C, dx, ws, rfl, x1.hh _ _ hH, (T.ok C hg).1, (T.ok C hg).2, by rw [hlen]; exact hl, ?_⟩
  rw [putF_new hws]
  have nn : H a ≠ none := by rw [hH]; simp
  -- the new part
  have key : OwnF X.K Γ S1 H1 (Γ.mu c x) d v ∧ (footF H1 (Γ.mu c x) v).Nodup ∧ ∀ q ∈ footF H1 (Γ.mu c x) v, H q = none ∧ S1 q = none := by
    rw [T.mu]
    cases k with
    | sh =>
      cases m with
      | sh => exact ⟨r1, by simp [footF], fun q hq => nomatch hq⟩
      | _ => cases hm
    | top =>
      cases m with
      | ow =>
        obtain ⟨p', rfl, n', t'⟩ := r1
        obtain ⟨g1, g2, g3⟩ := OwnF.of (hok.resolve_left (fun z => by cases z)) t'
        exact ⟨g1, g3, fun q hq => ⟨fr rfl p' rfl q (g2 ▸ hq), n' q (g2 ▸ hq)⟩⟩
      | _ => cases hm
    | dl =>
      cases m with
      | ow =>
        obtain ⟨p', rfl, n', t'⟩ := r1
        obtain ⟨g1, g2, g3⟩ := OwnF.of (hok.resolve_left (fun z => by cases z)) t'
        exact ⟨g1, g3, fun q hq => ⟨fr rfl p' rfl q (g2 ▸ hq), n' q (g2 ▸ hq)⟩⟩
      | _ => cases hm
  obtain ⟨g1, g2, g3⟩ := key
  have up : ∀ q o, H1 q = some o → q ≠ a → upd H1 a (.ins C dx (ws ++ [(x, v)])) q = some o := fun q o ho z => by rw [upd_ne z]; exact ho
  have na : ∀ q ∈ footF H1 (Γ.mu c x) v, q ≠ a := fun q hq z => nn (z ▸ (g3 q hq).1)
  have s1 := g1.same (H' := upd H1 a (.ins C dx (ws ++ [(x, v)]))) (Same.refl _) fun q hq o ho => up q o ho (na q hq)
  have s2 := hO.same (H' := upd H1 a (.ins C dx (ws ++ [(x, v)]))) x1.ss fun q hq o ho => up q o (x1.hh _ _ ho) fun z => (List.nodup_cons.mp nd).1 (z ▸ hq)
  have ha : upd H1 a (.ins C dx (ws ++ [(x, v)])) a = some (.ins C dx (ws ++ [(x, v)])) := upd_same
  have ef2 : footFs (upd H1 a (.ins C dx (ws ++ [(x, v)]))) (Γ.mu c) (ws ++ [(x, v)]) = footFs H (Γ.mu c) ws ++ footF H1 (Γ.mu c x) v := by rw [footFs_snoc, s1.2, s2.2]
  have old : ∀ q ∈ footFs H (Γ.mu c) ws, H q ≠ none := fun q hq z => by
    obtain ⟨o, ho, _⟩ := hO.there q hq; rw [z] at ho; cases ho
  have inF : ∀ q, q ∈ a :: footFs H (Γ.mu c) ws → q ∈ foot Γ H a (.ins c fs) := fun q hq => by rw [ins_foot hH]; exact hq
  have nd2 : (a :: (footFs H (Γ.mu c) ws ++ footF H1 (Γ.mu c x) v)).Nodup := by
    rw [← List.cons_append]
    refine List.nodup_append.mpr ⟨nd, g2, fun q hq q' hq' z => ?_⟩
    subst z
    rcases List.mem_cons.mp hq with rfl | hq
    · exact na q hq' rfl
    · exact old q hq (g3 q hq').1
  have S1a : S1 a = none := x1.fr a _ hH rfl (hfree a self_foot)
  refine kk S1 _ σ x1.ss (w.change (I := fun j => j = i) x1.ss (fun q o ho => up q o (x1.sh _ _ ho) fun z => by rw [z, S1a] at ho; cases ho) (fun j e => e ▸ hM) (fun q o ho z => up q o (x1.hh _ _ ho) fun y => z i _ a rfl hδ hp (by rw [y]; exact self_foot)) (fun q o ho t n _ => x1.fr q o ho t n) List.length_set (fun j nj => List.getElem?_set_ne fun e => nj e.symm) (fun j dj e h => ?_) (fun j dj b e h s q hq => ?_) (fun j k dj dk b c p e1 e2 _ _ _ _ _ _ => e1.trans e2.symm)) Fr.refl
  · subst e
    rw [List.getElem?_set_self li] at h
    cases h
    refine ⟨a, hp, ⟨_, hδ⟩, ⟨C, dx, _, ha, hg, OwnFs.snoc s1.1 s2.1, by rw [ef2]; exact nd2⟩, fun q hq => ?_⟩
    rw [ins_foot ha, ef2] at hq
    rcases List.mem_cons.mp hq with rfl | hq
    · exact S1a
    · rcases List.mem_append.mp hq with hq | hq
      · obtain ⟨o, ho, ht⟩ := hO.there q hq
        exact x1.fr q o ho ht (hfree q (inF q (List.mem_cons_of_mem _ hq)))
      · exact (g3 q hq).2
  · subst e
    rw [List.getElem?_set_self li] at h
    cases h
    have e : V.ref b = V.ref a := Option.some.inj (Option.some.inj (s.symm.trans hp))
    cases e
    rw [ins_foot ha, ef2] at hq
    rcases List.mem_cons.mp hq with rfl | hq
    · exact .inl ⟨j, _, q, rfl, hδ, hp, self_foot⟩
    · rcases List.mem_append.mp hq with hq | hq
      · exact .inl ⟨j, _, a, rfl, hδ, hp, inF q (List.mem_cons_of_mem _ hq)⟩
      · exact .inr (g3 q hq).1
end
end Dl
set_option maxHeartbeats 1000000
/-! a field that is a dict of lists of its own. -/
namespace Dl
open PySem L2 PyProof.Rows
section
variable {K : PySem.W.Frag} {Γ : CM} {S0 H0 S H S' H' : Hp} {σ : L2.St} {M : List Mode} {δ : Env} {i : Nat} {c x : Str} {fs : List (Str × D)} {a : Addr} {kvs : List (Key × List D)} {vs : List (Key × V)} {C dx : Addr} {ws : List (Str × V)}
theorem dl_foot {p : Addr} (e : H p = some (.dK vs)) : footF H .dl (.ref p) = p :: refsN vs := by
  show [p] ++ ([p].flatMap fun p => refsD (H p)) = _
  rw [List.flatMap_cons, List.flatMap_nil, List.append_nil, e]; rfl
/-- where it lies; how it is changed -/
theorem Wd.fDl (w : Wd K Γ S0 H0 S H σ M δ) (hm : md M i = .ow) (hd : δ[i]? = some (some (.ins c fs))) (hs : σ[i]? = some (some (.ref a))) (hH : H a = some (.ins C dx ws)) (hmu : Γ.mu c x = .dl) (hf : fs.lookup x = some (.nst true kvs)) :
    ∃ p vs, ws.lookup x = some (.ref p) ∧ H p = some (.dK vs) ∧ kvs.length ≤ sizeLine ∧ OwnDL K Γ S H kvs vs ∧ (p :: refsN vs).Nodup ∧ a ∉ p :: refsN vs ∧ (∀ q ∈ p :: refsN vs, S q = none) ∧
      ∀ (S' H' : Hp) kvs' vs', Same S S' → Same S' H' → (∀ q o, H q = some o → q ∉ p :: refsN vs → H' q = some o) → (∀ q, q ∉ p :: refsN vs → H q ≠ none → S' q = S q) → H' p = some (.dK vs') → kvs'.length ≤ sizeLine → OwnDL K Γ S' H' kvs' vs' → (p :: refsN vs').Nodup → (∀ q ∈ p :: refsN vs', (q ∈ p :: refsN vs ∨ H q = none) ∧ S' q = none) →
        Wd K Γ S0 H0 S' H' σ M (δ.set i (some (.ins c (setFD x (.nst true kvs') fs)))) := by
  obtain ⟨v, q1, q2, q3, q4, q5, q6⟩ := w.fldUp hm hd hs hH hf
  rw [hmu] at q2 q3 q4 q5 q6
  obtain ⟨p, kds, vs, rfl, ek, e, hl, o⟩ := q2
  cases ek
  rw [dl_foot e] at q3 q4 q5 q6
  refine ⟨p, vs, q1, e, hl, o, q5, q3, q4, fun S' H' kvs' vs' ss sh ag fr e' l' o' nd' sub => ?_⟩
  have ef := dl_foot e'
  exact q6 S' H' _ ss sh ag fr ⟨p, kvs', vs', rfl, rfl, e', l', o'⟩ (by rw [ef]; exact nd') (by rw [ef]; exact sub)
theorem Wd.fDlApp {n : Nat} {k : Key} {e : List D} {y : D} {v : V} {p : Addr} (w : Wd K Γ S0 H0 S H σ M δ) (hm : md M i = .ow) (hd : δ[i]? = some (some (.ins c fs))) (hs : σ[i]? = some (some (.ref a))) (hH : H a = some (.ins C dx ws)) (hmu : Γ.mu c x = .dl) (hf : fs.lookup x = some (.nst true kvs)) (hp : ws.lookup x = some (.ref p)) (hv : H p = some (.dK vs)) (hn : kvs[n]? = some (k, e)) (hl : e.length < sizeLine) (rx : Rep K Γ S y v) :
    ∃ q us, vs[n]? = some (k, .ref q) ∧ H q = some (.lst us) ∧ us.length = e.length ∧ Wd K Γ S0 H0 S (upd H q (.lst (us ++ [v]))) σ M (δ.set i (some (.ins c (setFD x (.nst true (kvs.set n (k, e ++ [y]))) fs)))) := by
  obtain ⟨p', vs', z1, z2, z3, z4, nd, z6, z7, z8⟩ := w.fDl hm hd hs hH hmu hf
  rw [hp] at z1; cases z1
  rw [hv] at z2; cases z2
  obtain ⟨q, us, q1, q2, q3, q4, q5⟩ := z4.at hn
  have ne : p ≠ q := fun z => (List.nodup_cons.mp nd).1 (z ▸ q2)
  refine ⟨q, us, q1, q3, q5.length, z8 S _ _ vs (Same.refl _) (fun b o ho => ?_) (fun b o ho z => ?_) (fun _ _ _ => rfl) (by rw [upd_ne ne]; exact hv) (by rw [List.length_set]; exact z3) (z4.app rx (List.nodup_cons.mp nd).2 hn hl q1 q3) nd fun b hb => ⟨.inl hb, z7 b hb⟩⟩
  · rw [upd_ne fun y => by rw [y, z7 q (List.mem_cons_of_mem _ q2)] at ho; cases ho]; exact w.sH _ _ ho
  · rw [upd_ne fun y => z (by rw [y]; exact List.mem_cons_of_mem _ q2)]; exact ho
theorem Wd.fDlPut {k : Key} {p pn : Addr} (w : Wd K Γ S0 H0 S H σ M δ) (hm : md M i = .ow) (hd : δ[i]? = some (some (.ins c fs))) (hs : σ[i]? = some (some (.ref a))) (hH : H a = some (.ins C dx ws)) (hmu : Γ.mu c x = .dl) (hf : fs.lookup x = some (.nst true kvs)) (hp : ws.lookup x = some (.ref p)) (hv : H p = some (.dK vs)) (hpn : H pn = none) (hl : kvs.length < sizeLine) :
    Wd K Γ S0 H0 S (upd (upd H pn (.lst [])) p (.dK (vs ++ [(k, .ref pn)]))) σ M (δ.set i (some (.ins c (setFD x (.nst true (kvs ++ [(k, [])])) fs)))) := by
  obtain ⟨p', vs', z1, z2, z3, z4, nd, z6, z7, z8⟩ := w.fDl hm hd hs hH hmu hf
  rw [hp] at z1; cases z1
  rw [hv] at z2; cases z2
  have ne : p ≠ pn := fun z => by rw [z, hpn] at hv; cases hv
  have np : ∀ q ∈ p :: refsN vs, q ≠ pn := fun q hq z => by
    rcases List.mem_cons.mp hq with rfl | hq
    · exact ne z
    · obtain ⟨o, ho, _⟩ := z4.there q hq
      rw [z, hpn] at ho; cases ho
  have ext : ∀ q o, H q = some o → q ≠ p → upd (upd H pn (.lst [])) p (.dK (vs ++ [(k, .ref pn)])) q = some o := fun q o ho z => by
    rw [upd_ne z, upd_ne (ne_of_none ho hpn)]; exact ho
  have hr : refsN (vs ++ [(k, .ref pn)]) = refsN vs ++ [pn] := by unfold refsN; rw [List.flatMap_append]; rfl
  refine z8 S _ _ (vs ++ [(k, .ref pn)]) (Same.refl _) (fun b o ho => ext b o (w.sH _ _ ho) fun y => by rw [y, z7 p List.mem_cons_self] at ho; cases ho) (fun b o ho z => ext b o ho fun y => z (by rw [y]; exact List.mem_cons_self)) (fun _ _ _ => rfl) upd_same (by rw [List.length_append, List.length_singleton]; omega) (OwnDL.snoc (by rw [upd_ne ne.symm, upd_same]) (z4.same (Same.refl _) fun q hq o ho => ext q o ho fun z => (List.nodup_cons.mp nd).1 (z ▸ hq))) ?_ fun b hb => ?_
  · rw [hr, ← List.cons_append]
    refine List.nodup_append.mpr ⟨nd, by simp, fun q hq q' hq' => ?_⟩
    rw [List.mem_singleton.mp hq']; exact np q hq
  · rw [hr, ← List.cons_append] at hb
    rcases List.mem_append.mp hb with hb | hb
    · exact ⟨.inl hb, z7 b hb⟩
    · rw [List.mem_singleton.mp hb]; exact ⟨.inr hpn, w.sH.free hpn⟩
/-! a list is taken out of it: it becomes shared -/
theorem OwnDL.drop {k : Key} : ∀ {ds : List (Key × List D)} {vs : List (Key × V)}, OwnDL K Γ S H ds vs → OwnDL K Γ S H (ds.filter fun p => decide (p.1 ≠ k)) (dropK vs k) ∧ (∀ q ∈ refsN (dropK vs k), q ∈ refsN vs) ∧ ((refsN vs).Nodup → (refsN (dropK vs k)).Nodup)
  | [], _, h => by cases (show _ = [] from h); exact ⟨rfl, fun q hq => hq, fun h => h⟩
  | (k', e) :: ds, _, ⟨q, ws, us, e1, e3, l, r, t⟩ => by
    subst e1
    obtain ⟨h1, h2, h3⟩ := OwnDL.drop (k := k) t
    unfold dropK at h1 h2 h3 ⊢
    by_cases c : k' = k
    · rw [List.filter_cons_of_neg (by simpa using c), List.filter_cons_of_neg (by simpa using c)]
      exact ⟨h1, fun z hz => List.mem_cons_of_mem _ (h2 z hz), fun nd => h3 (List.nodup_cons.mp (show (q :: refsN ws).Nodup from nd)).2⟩
    · rw [List.filter_cons_of_pos (by simpa using c), List.filter_cons_of_pos (by simpa using c)]
      refine ⟨⟨q, _, us, rfl, e3, l, r, h1⟩, fun z hz => ?_, fun nd => ?_⟩
      · have hz : z ∈ q :: refsN (ws.filter fun p => decide (p.1 ≠ k)) := hz
        rcases List.mem_cons.mp hz with rfl | hz
        · exact List.mem_cons_self
        · exact List.mem_cons_of_mem _ (h2 z hz)
      · have nd : (q :: refsN ws).Nodup := nd
        obtain ⟨n1, n2⟩ := List.nodup_cons.mp nd
        exact List.nodup_cons.mpr ⟨fun z => n1 (h2 q z), h3 n2⟩
theorem dropK_out {k : Key} {n : Nat} {q : Addr} : ∀ {ds : List (Key × List D)} {vs : List (Key × V)}, OwnDL K Γ S H ds vs → (refsN vs).Nodup → kIx k ds = some n → vs[n]? = some (k, .ref q) → q ∉ refsN (dropK vs k)
  | ds, vs, o, nd, hk, hv, z => by
    -- an address of what is left has another key
    have : ∀ {ds : List (Key × List D)} {vs : List (Key × V)}, OwnDL K Γ S H ds vs → q ∈ refsN (dropK vs k) → ∃ (m : Nat) (k' : Key), vs[m]? = some (k', V.ref q) ∧ k' ≠ k := by
      intro ds
      induction ds with
      | nil => intro vs o z; cases (show vs = [] from o); cases z
      | cons y ds ih =>
        intro vs ⟨q', ws, us, e1, e3, l, r, t⟩ z
        subst e1
        unfold dropK at z
        by_cases c : y.1 = k
        · rw [List.filter_cons_of_neg (by simpa using c)] at z
          obtain ⟨m, k', h1, h2⟩ := ih t z
          exact ⟨m + 1, k', h1, h2⟩
        · rw [List.filter_cons_of_pos (by simpa using c)] at z
          have z : q ∈ q' :: refsN (ws.filter fun p => decide (p.1 ≠ k)) := z
          rcases List.mem_cons.mp z with rfl | z
          · exact ⟨0, y.1, rfl, c⟩
          · obtain ⟨m, k', h1, h2⟩ := ih t z
            exact ⟨m + 1, k', h1, h2⟩
    obtain ⟨m, k', h1, h2⟩ := this o z
    -- no address stands twice
    have uni : ∀ {vs : List (Key × V)} {n m : Nat} {k k' : Key}, (refsN vs).Nodup → vs[n]? = some (k, V.ref q) → vs[m]? = some (k', V.ref q) → k = k' := by
      intro vs
      induction vs with
      | nil => intro n m k k' _ h; simp at h
      | cons y vs ih =>
        intro n m k k' nd h1 h2
        have nd : (refV y.2 ++ refsN vs).Nodup := nd
        obtain ⟨n1, n2, n3⟩ := List.nodup_append.mp nd
        have inr : ∀ {j : Nat} {k : Key}, vs[j]? = some (k, .ref q) → q ∈ refsN vs := fun {j k} h => List.mem_flatMap.mpr ⟨_, List.mem_of_getElem? h, List.mem_singleton.mpr rfl⟩
        cases n with
        | zero =>
          cases (show some y = some (k, V.ref q) from h1)
          cases m with
          | zero => cases (show some (k, V.ref q) = some (k', V.ref q) from h2); rfl
          | succ m => exact (n3 q (List.mem_singleton.mpr rfl) q (inr (show vs[m]? = _ from h2)) rfl).elim
        | succ n =>
          cases m with
          | zero =>
            cases (show some y = some (k', V.ref q) from h2)
            exact (n3 q (List.mem_singleton.mpr rfl) q (inr (show vs[n]? = _ from h1)) rfl).elim
          | succ m => exact ih n2 (show vs[n]? = _ from h1) (show vs[m]? = _ from h2)
    exact h2 (uni nd hv h1).symm
theorem Wd.fDlPop {n : Nat} {k : Key} {e : List D} {p : Addr} (w : Wd K Γ S0 H0 S H σ M δ) (hm : md M i = .ow) (hd : δ[i]? = some (some (.ins c fs))) (hs : σ[i]? = some (some (.ref a))) (hH : H a = some (.ins C dx ws)) (hmu : Γ.mu c x = .dl) (hf : fs.lookup x = some (.nst true kvs)) (hp : ws.lookup x = some (.ref p)) (hv : H p = some (.dK vs)) (hk : kIx k kvs = some n) (hn : kvs[n]? = some (k, e)) :
    ∃ q us S', vs[n]? = some (k, .ref q) ∧ Same S S' ∧ S' q = some (.lst us) ∧ e.length ≤ sizeLine ∧ RepL K Γ S' e us ∧ Wd K Γ S0 H0 S' (upd H p (.dK (dropK vs k))) σ M (δ.set i (some (.ins c (setFD x (.nst true (kvs.filter fun p => decide (p.1 ≠ k))) fs)))) := by
  obtain ⟨p', vs', z1, z2, z3, z4, nd, z6, z7, z8⟩ := w.fDl hm hd hs hH hmu hf
  rw [hp] at z1; cases z1
  rw [hv] at z2; cases z2
  obtain ⟨q, us, q1, q2, q3, q4, q5⟩ := z4.at hn
  obtain ⟨n1, n2⟩ := List.nodup_cons.mp nd
  have ne : p ≠ q := fun z => n1 (z ▸ q2)
  have sq := z7 q (List.mem_cons_of_mem _ q2)
  have ss : Same S (upd S q (.lst us)) := Same.upd sq
  obtain ⟨d1, d2, d3⟩ := z4.drop (k := k)
  have out := dropK_out z4 n2 hk q1
  refine ⟨q, us, upd S q (.lst us), q1, ss, upd_same, q4, q5.mono ss, z8 _ _ _ (dropK vs k) ss (fun b o ho => ?_) (fun b o ho z => ?_) (fun b hb _ => ?_) upd_same (Nat.le_trans (List.length_filter_le _ _) z3) (d1.same ss fun b hb o ho => ?_) (List.nodup_cons.mpr ⟨fun z => n1 (d2 p z), d3 n2⟩) fun b hb => ?_⟩
  · by_cases eb : b = q
    · subst eb; rw [upd_same] at ho; cases ho; rw [upd_ne (fun z => ne z.symm)]; exact q3
    · rw [upd_ne eb] at ho
      rw [upd_ne fun y => by rw [y, z7 p List.mem_cons_self] at ho; cases ho]; exact w.sH _ _ ho
  · rw [upd_ne fun y => z (by rw [y]; exact List.mem_cons_self)]; exact ho
  · rw [upd_ne fun y => hb (by rw [y]; exact List.mem_cons_of_mem _ q2)]
  · rw [upd_ne fun y => n1 (by rw [← y]; exact d2 b hb)]; exact ho
  · have hb' : b ∈ p :: refsN vs := by
      rcases List.mem_cons.mp hb with rfl | hb
      · exact List.mem_cons_self
      · exact List.mem_cons_of_mem _ (d2 b hb)
    refine ⟨.inl hb', ?_⟩
    rw [upd_ne fun y => ?_]
    · exact z7 b hb'
    · rcases List.mem_cons.mp hb with rfl | hb
      · exact ne y
      · exact out (y ▸ hb)
end
end Dl
set_option maxHeartbeats 1000000
/-! self.f.setdefault(k, []).append(e); for x in self.f.pop(k): .. -/
namespace Dl
open PySem L2 PyProof.Rows
structure FldD (K : PySem.W.Frag) (Γ : CM) (c x : Str) : Prop where
  ok : ∀ C, iM Γ c = some C → Cls K C ∧ NoAttr K C x
  mu : Γ.mu c x = .dl
section
variable {X : Cx} {Γ : CM} {E : WX} {rm : RM} {M M1 : List Mode} {e e1 e2 : Expr} {t t1 t2 : TE} {f f1 f2 : Ev} {m m1 m2 : Mode} {pos apos cpos p2 : Pos}
theorem setFD_look {x : Str} {d d' : D} : ∀ {fs : List (Str × D)}, fs.lookup x = some d → (setFD x d' fs).lookup x = some d'
  | [], h => by cases h
  | (n, y) :: fs, h => by
    rw [List.lookup_cons] at h
    cases q : x == n with
    | true =>
      have en := eq_of_beq q
      subst en
      unfold setFD; rw [if_pos rfl, List.lookup_cons, q]
    | false =>
      rw [q] at h
      have ne : ¬ n = x := fun e => by rw [e, beq_self_eq_true] at q; cases q
      unfold setFD; rw [if_neg ne, List.lookup_cons, q]; exact setFD_look h
theorem setFD_twice {x : Str} {d d' : D} : ∀ {fs : List (Str × D)}, setFD x d' (setFD x d fs) = setFD x d' fs
  | [] => rfl
  | (n, y) :: fs => by
    by_cases c : n = x
    · simp [setFD, c]
    · simp [setFD, c, setFD_twice (fs := fs)]
theorem setFD_self {x : Str} {d : D} : ∀ {fs : List (Str × D)}, fs.lookup x = some d → setFD x d fs = fs
  | [], h => by cases h
  | (n, y) :: fs, h => by
    rw [List.lookup_cons] at h
    cases q : x == n with
    | true =>
      rw [q] at h; cases h
      have en := eq_of_beq q
      subst en
      unfold setFD; rw [if_pos rfl]
    | false =>
      rw [q] at h
      have ne : ¬ n = x := fun e => by rw [e, beq_self_eq_true] at q; cases q
      unfold setFD; rw [if_neg ne, setFD_self h]
def dlAt (c x : Str) (i : Nat) : Env → Option (List (Str × D) × List (Key × List D)) := fun δ => (insAt c i δ).bind fun fs => (fs.lookup x).bind fun l => match l with
  | .nst true kvs => some (fs, kvs)
  | _ => none
theorem dlAt_some {c x : Str} {i : Nat} {δ : Env} {r : List (Str × D) × List (Key × List D)} (h : dlAt c x i δ = some r) : δ[i]? = some (some (.ins c r.1)) ∧ r.1.lookup x = some (.nst true r.2) := by
  obtain ⟨fs, q1, q2⟩ := bind_some h
  obtain ⟨l, q3, q4⟩ := bind_some q2
  cases l with
  | nst b kvs =>
    cases b with
    | true => cases q4; exact ⟨insAt_some q1, q3⟩
    | false => cases q4
  | _ => cases q4
def sFSd (i : Nat) (c x : Str) (fk fx : Ev) : Sv := fun δ => (dlAt c x i δ).bind fun r => (fk δ).bind fun kd => (keyD kd).bind fun k => (sdP k r.2).bind fun kvs0 => (fx (δ.set i (some (.ins c (setFD x (.nst true kvs0) r.1))))).bind fun y => (apK k y kvs0).map fun kvs' => .nx (δ.set i (some (.ins c (setFD x (.nst true kvs') r.1))))
theorem ds_fSd (K : PySem.W.Frag) {i : Nat} {c n x : Str} {p kp mpos fpos : Pos} (hM : md M i = .ow) (T : FldD K Γ c x) (h1 : DE Γ X M e1 t1 f1 m1) (h2 : DE Γ X M e2 t2 f2 m2) (hm1 : okS m1 = true := by rfl) (hm2 : okS m2 = true := by rfl) (hN : X.N[i]? = some n := by rfl) (hv : Vis X.env.scope n := by first | exact Or.inl rfl | exact Or.inr (Or.inl rfl) | exact Or.inr (Or.inr rfl)) (hd : (n == ("__debug__" : Str)) = false := by decide)
    (hcd : (n == ("__classdict__" : Str)) = false := by decide) (hb : attributeBase (.Name n p) x X.env (eval (.Name n p) X.env) = eval (.Name n p) X.env := by rfl) (mm : M2 X (.Attribute (.Name n p) x fpos) "setdefault" mpos e1 (.List [] kp) p2 := by exact ⟨rfl, rfl, rfl, rfl⟩)
    (hbase : attributeBase (.Call (.Attribute (.Attribute (.Name n p) x fpos) "setdefault" mpos) [e1, .List [] kp] [] p2) "append" X.env (eval (.Call (.Attribute (.Attribute (.Name n p) x fpos) "setdefault" mpos) [e1, .List [] kp] [] p2) X.env) = eval (.Call (.Attribute (.Attribute (.Name n p) x fpos) "setdefault" mpos) [e1, .List [] kp] [] p2) X.env := by rfl)
    (hfew : (((backTo cpos (starEach [e2] X.env)).all (!·.1)) && ((backToKw cpos (keywordEach [] X.env)).all (·.1.isSome)) && decide (([e2].length + ([] : List Keyword).length + if ([] : List Keyword).isEmpty = true then 0 else 1) < 30)) = true := by rfl) (hline : (apos.endLine == cpos.line) = true := by rfl)
    (h3 : starEach [e2] X.env = (false, eval e2 X.env) :: starEach [] X.env := by rfl) (h4 : (backTo cpos (starEach [] X.env)).any (·.1) = false := by rfl) (hs : swapsWith (.Call (.Attribute (.Call (.Attribute (.Attribute (.Name n p) x fpos) "setdefault" mpos) [e1, .List [] kp] [] p2) "append" apos) [e2] [] cpos) none pos.line X.env = pure false := by rfl) (hK : X.K = K := by rfl) :
    DS Γ X E rm M (.Expr (.Call (.Attribute (.Call (.Attribute (.Attribute (.Name n p) x fpos) "setdefault" mpos) [e1, .List [] kp] [] p2) "append" apos) [e2] [] cpos) pos) (tDrop (tBM K "list" rAppend (tDSetd (tFld K (tVar i) x) t1 (tLst tNil)) (tCons t2 tNil))) (sFSd i c x f1 f2) M [] := by
  subst hK
  refine ⟨ps_expr (pe_bm PySem.F.plainAttrs_list PySem.F.slot_list_append PySem.F.type_list_append mt_append (pe_dsetd (pe_fld (pe_var hN hv hd hcd) hb) h1.pe (pe_lst pa_nil) mm) (pa_cons h2.pe pa_nil h3) hbase hfew hline h3 h4) hs, fun S0 H0 S H σ δ Dn o w ef k => ?_⟩
  obtain ⟨⟨fs, kvs⟩, q1, q2⟩ := bind_some ef
  obtain ⟨hl, hf⟩ := dlAt_some q1
  dsimp only at hl hf q2
  obtain ⟨kd, q3, q4⟩ := bind_some q2
  obtain ⟨key, q5, q6⟩ := bind_some q4
  obtain ⟨kvs0, q7, q8⟩ := bind_some q6
  obtain ⟨xd, q9, q10⟩ := bind_some q8
  obtain ⟨kvs', q11, rfl⟩ := map_some q10
  obtain ⟨n', z1, z2⟩ := bind_some q11
  obtain ⟨⟨k', e⟩, z3, z4⟩ := bind_some z2
  obtain ⟨hle, rfl⟩ := ite_some z4
  obtain ⟨e', ge⟩ := kIx_get z1
  rw [ge] at z3; cases z3
  have hz : kvs.length < sizeLine := by
    unfold sdP at q7
    split at q7
    · exact (ite_some q7).1
    · exact (ite_some q7).1
  have li : i < δ.length := (List.getElem?_eq_some_iff.mp hl).1
  obtain ⟨a, C, dx, ws, hp, hH, hg, hO, nd⟩ := w.ins hM hl
  obtain ⟨p0, vs0, y1, y2, _⟩ := w.fDl hM hl hp hH T.mu hf
  refine ⟨_, hp, a, C, dx, ws, _, rfl, hH, (T.ok C hg).1, (T.ok C hg).2, y1, p0, rfl, .inl ⟨vs0, .inl y2⟩, ?_⟩
  refine (h1.snd.sh hm1) S0 H0 S H σ δ _ _ w q3 fun u S1 H1 x1 r1 _ => ?_
  have w1 := w.mono x1
  have hH1 := x1.hh _ _ hH
  show (0 : Nat) ≤ sizeLine ∧ _
  refine ⟨Nat.zero_le _, fun pn hpn => ?_⟩
  obtain ⟨p1, vs, b1, b2, b3, b4, b5, b6, _⟩ := w1.fDl hM hl hp hH1 T.mu hf
  rw [y1] at b1; cases b1
  have nap : a ≠ p0 := fun z => b6 (by rw [z]; exact List.mem_cons_self)
  have na : p0 ≠ pn := fun z => by rw [z, hpn] at b2; cases b2
  have xn : Ext S1 H1 S1 (upd H1 pn (.lst [])) := Ext.owned w1.sH hpn _
  obtain ⟨kn, ks⟩ := b4.kix (k := key)
  have fin : ∀ H2 q, Wd X.K Γ S0 H0 S1 H2 σ M (δ.set i (some (.ins c (setFD x (.nst true kvs0) fs)))) → H2 a = some (.ins C dx ws) → (∃ vs2, H2 p0 = some (.dK vs2) ∧ OwnDL X.K Γ S1 H2 kvs0 vs2 ∧ vs2[n']? = some (key, .ref q)) → tyV X.K "list" (.ref q) H2 ∧ tCons t2 tNil σ H2 fun xs H3 => rAppend (.ref q) xs H3 fun _ H4 => Dn.nx σ H4 := fun H2 q w2 hH2 ⟨vs2, c1, c2, c3⟩ => by
    have hl2 : (δ.set i (some (D.ins c (setFD x (.nst true kvs0) fs))))[i]? = some (some (.ins c (setFD x (.nst true kvs0) fs))) := List.getElem?_set_self li
    obtain ⟨q', us, v1, v2, v3, v4, v5⟩ := c2.at ge
    rw [c3] at v1; cases v1
    refine ⟨.inl ⟨rfl, us, SqL.of v3⟩, ?_⟩
    refine (h2.snd.sh hm2) S0 H0 S1 H2 σ _ _ _ w2 q9 fun y S3 H3 x3 r3 _ => ?_
    have w3 := w2.mono x3
    obtain ⟨q', us', y2, y3, y4, y5⟩ := w3.fDlApp hM hl2 hp (x3.hh _ _ hH2) T.mu (setFD_look hf) y1 (x3.hh _ _ c1) ge hle r3
    rw [c3] at y2; cases y2
    rw [x3.hh _ _ v3] at y3; cases y3
    rw [List.set_set, setFD_twice] at y5
    exact ⟨q, us, y, rfl, rfl, x3.hh _ _ v3, by rw [y4]; exact hle, k S3 _ σ (x1.ss.trans x3.ss) y5 Fr.refl⟩
  refine ⟨vs, key, by rw [upd_ne na]; exact b2, r1.key q5, by rw [b4.len]; exact hz, fun v hv => ?_, fun hv => ?_⟩
  · cases qk : kIx key kvs with
    | none => rw [kn qk] at hv; cases hv
    | some n2 =>
      unfold sdP at q7
      rw [qk] at q7
      obtain ⟨_, rfl⟩ := ite_some q7
      rw [z1] at qk; cases qk
      rw [ks n' z1] at hv
      obtain ⟨q, us, v1, v2, v3, v4, v5⟩ := b4.at ge
      rw [v1] at hv; cases hv
      refine fin _ q ?_ (xn.hh _ _ hH1) ⟨vs, by rw [upd_ne na]; exact b2, b4.same (Same.refl _) fun q _ o ho => xn.hh _ _ ho, v1⟩
      rw [setFD_self hf, set_self hl]; exact w1.mono xn
  · cases qk : kIx key kvs with
    | some n2 =>
      rw [ks n2 qk] at hv
      obtain ⟨e', ge2⟩ := kIx_get qk
      obtain ⟨q, us, v1, _⟩ := b4.at ge2
      rw [v1] at hv; cases hv
    | none =>
      unfold sdP at q7
      rw [qk] at q7
      obtain ⟨_, rfl⟩ := ite_some q7
      rw [kIx_snoc qk] at z1
      cases z1
      rw [putK_none hv]
      have w2 := w1.fDlPut (k := key) hM hl hp hH1 T.mu hf y1 b2 hpn hz
      have hH2 : upd (upd H1 pn (.lst [])) p0 (.dK (vs ++ [(key, .ref pn)])) a = some (.ins C dx ws) := by
        rw [upd_ne nap]; exact xn.hh _ _ hH1
      obtain ⟨p2', vs2, c1, c2, c3, c4, _⟩ := w2.fDl hM (List.getElem?_set_self li) hp hH2 T.mu (setFD_look hf)
      rw [y1] at c1; cases c1
      refine fin _ pn w2 hH2 ⟨vs ++ [(key, .ref pn)], upd_same, ?_, by rw [← b4.len, List.getElem?_append_right (Nat.le_refl _), Nat.sub_self]; rfl⟩
      rw [upd_same] at c2
      have ev := HO.dK.inj (Option.some.inj c2)
      subst ev; exact c4
/-! ### for x in self.f.pop(k) -/
def SndIF (K : PySem.W.Frag) (Γ : CM) (M : List Mode) (wi : TI) (f : Env → Option (List D × Env)) : Prop :=
  ∀ S0 H0 S H σ δ R r, Wd K Γ S0 H0 S H σ M δ → f δ = some r → (∀ J S1 H1, Same S S1 → Wd K Γ S0 H0 S1 H1 σ M r.2 → ItOk K Γ S0 H0 S1 J r.1 → R J H1) → wi σ H R
def sForF (it : Env → Option (List D × Env)) (set : Hv) (body : Sv) : Sv := fun δ => (it δ).bind fun r => forD set body r.1 r.2
theorem snd_forF {K : PySem.W.Frag} {tg : Expr} {g : TG} {h : Hv} {ws wt : List Nat} {wi : TI} {it : Env → Option (List D × Env)} {tb : TS} {body : Sv} (hi : SndIF K Γ M wi it) (hg : SndG K Γ M g h M1 ws) (hb : SndS K Γ E rm M1 tb body M wt) : SndS K Γ E rm M (tFor wi g tb) (sForF it h body) M (ws ++ wt) := fun S0 H0 S H σ0 δ Dn o w ef k => by
  obtain ⟨⟨ds, δ0⟩, e1, e2⟩ := bind_some ef
  refine hi S0 H0 S H σ0 δ _ _ w e1 fun J S1 H1 s1 w1 ok => ?_
  dsimp only at e2 w1 ok
  refine ⟨fun i m σ H => m = ds.length - i ∧ i ≤ ds.length ∧ ∃ S2 δ2, Wd K Γ S0 H0 S2 H σ M δ2 ∧ Same S1 S2 ∧ forD h body (ds.drop i) δ2 = some o ∧ Fr (ws ++ wt) σ0 σ, ⟨_, rfl, Nat.zero_le _, S1, δ0, w1, Same.refl _, e2, Fr.refl⟩, ?_⟩
  rintro i m σ2 H2 ⟨rfl, hi', S2, δ2, w2, s2, e3, f2⟩
  have at_ := ok.2 S2 H2 w2.ext s2
  by_cases hlt : i < ds.length
  · refine .inr ⟨(at_.go i ds[i] (List.getElem?_eq_getElem hlt)).1, fun σ' H' => ∃ S3 δ3, Wd K Γ S0 H0 S3 H' σ' M δ3 ∧ Same S1 S3 ∧ forD h body (ds.drop (i + 1)) δ3 = some o ∧ Fr (ws ++ wt) σ0 σ', fun σ' H' ⟨S3, δ3, w3, s3, e4, f4⟩ => ⟨ds.length - (i + 1), by omega, rfl, hlt, S3, δ3, w3, s3, e4, f4⟩, fun x H3 y => ?_⟩
    obtain ⟨S3, x3, r3⟩ := (at_.go i ds[i] (List.getElem?_eq_getElem hlt)).2 x H3 y
    rw [List.drop_eq_getElem_cons hlt] at e3
    obtain ⟨δ4, e4, e5⟩ := bind_some e3
    obtain ⟨o5, e6, e7⟩ := bind_some e5
    refine hg S0 H0 S3 H3 σ2 δ2 x ds[i] _ δ4 (w2.mono x3) r3 e4 fun σ4 w4 u4 => ?_
    have f4 : Fr (ws ++ wt) σ0 σ4 := f2.same ((fr_wipe u4).up fun j => List.mem_append_left _)
    refine hb S0 H0 S3 H3 σ4 δ4 _ o5 w4 e6 ?_
    cases o5 with
    | nx δ5 => exact fun S5 H5 σ5 s5 w5 f5 => ⟨S5, δ5, w5, (s2.trans x3.ss).trans s5, e7, f4.same (f5.up fun j => List.mem_append_right _)⟩
    | rt d => cases e7; exact fun v S' H' σ' s5 w5 f5 => k v S' H' σ' (((s1.trans s2).trans x3.ss).trans s5) w5 (f4.same (f5.up fun j => List.mem_append_right _))
    | ex c fs => cases e7; exact fun cls dd S' H' σ' s5 w5 f5 => k cls dd S' H' σ' (((s1.trans s2).trans x3.ss).trans s5) w5 (f4.same (f5.up fun j => List.mem_append_right _))
  · have e : i = ds.length := by omega
    subst e
    rw [List.drop_length] at e3
    cases e3
    exact .inl ⟨at_.stop, k S2 H2 σ2 (s1.trans s2) w2 f2⟩
def iPop (i : Nat) (c x : Str) (fk : Ev) : Env → Option (List D × Env) := fun δ => (dlAt c x i δ).bind fun r => (fk δ).bind fun kd => (keyD kd).bind fun k => (kIx k r.2).bind fun n => (r.2[n]?).map fun ke => (ke.2, δ.set i (some (.ins c (setFD x (.nst true (r.2.filter fun p => decide (p.1 ≠ k))) r.1))))
theorem ds_forPop (K : PySem.W.Frag) {tg : Expr} {g : TG} {h : Hv} {ws wt : List Nat} {body : List Stmt} {tb : TS} {s : Sv} {i : Nat} {c n x : Str} {p fpos : Pos} (hpo : PassesOwn (model X.prog X.w) X.A X.env X.xe) (hc : X.calm = true) (hM : md M i = .ow) (T : FldD K Γ c x) (h1 : DE Γ X M e1 t1 f1 m1) (hg : DG Γ X M tg g h M1 ws) (hb' : DSs Γ X E rm M1 body tb s M wt) (hm1 : okS m1 = true := by rfl) (hN : X.N[i]? = some n := by rfl) (hv : Vis X.env.scope n := by first | exact Or.inl rfl | exact Or.inr (Or.inl rfl) | exact Or.inr (Or.inr rfl)) (hd : (n == ("__debug__" : Str)) = false := by decide)
    (hcd : (n == ("__classdict__" : Str)) = false := by decide) (hb : attributeBase (.Name n p) x X.env (eval (.Name n p) X.env) = eval (.Name n p) X.env := by rfl) (mm : L2.M1 X (.Attribute (.Name n p) x fpos) "pop" apos e1 cpos := by exact ⟨rfl, rfl, rfl, rfl⟩)
    (hs : ∀ z, foldedSetIterable (.Call (.Attribute (.Attribute (.Name n p) x fpos) "pop" apos) [e1] [] cpos) X.env z = pure z := by intro _; rfl) (hK : X.K = K := by rfl) :
    DS Γ X E rm M (.For tg (.Call (.Attribute (.Attribute (.Name n p) x fpos) "pop" apos) [e1] [] cpos) body [] pos) (tFor (iList K (tDPop1 (tFld K (tVar i) x) t1)) g tb) (sForF (iPop i c x f1) h s) M (ws ++ wt) := by
  subst hK
  refine ⟨ps_for hpo hc (pi_list (pe_dpop1 (pe_fld (pe_var hN hv hd hcd) hb) h1.pe mm)) hg.pg hb'.pss hs, snd_forF (tg := tg) (fun S0 H0 S H σ δ R r w ef k => ?_) hg.snd hb'.snd⟩
  obtain ⟨⟨fs, kvs⟩, q1, q2⟩ := bind_some ef
  obtain ⟨hl, hf⟩ := dlAt_some q1
  dsimp only at hl hf q2
  obtain ⟨kd, q3, q4⟩ := bind_some q2
  obtain ⟨key, q5, q6⟩ := bind_some q4
  obtain ⟨n', q7, q8⟩ := bind_some q6
  obtain ⟨⟨k', e⟩, q9, rfl⟩ := map_some q8
  obtain ⟨e', ge⟩ := kIx_get q7
  rw [ge] at q9; cases q9
  obtain ⟨a, C, dx, ws', hp, hH, hg', hO, nd⟩ := w.ins hM hl
  obtain ⟨p0, vs0, y1, y2, _⟩ := w.fDl hM hl hp hH T.mu hf
  refine ⟨_, hp, a, C, dx, ws', _, rfl, hH, (T.ok C hg').1, (T.ok C hg').2, y1, p0, rfl, .inl ⟨vs0, .inl y2⟩, ?_⟩
  refine (h1.snd.sh hm1) S0 H0 S H σ δ _ _ w q3 fun u S1 H1 x1 r1 _ => ?_
  have w1 := w.mono x1
  have hH1 := x1.hh _ _ hH
  obtain ⟨p1, vs, b1, b2, b3, b4, b5, b6, _⟩ := w1.fDl hM hl hp hH1 T.mu hf
  rw [y1] at b1; cases b1
  obtain ⟨q, us, S', v1, ss, sq, le, rl, w2⟩ := w1.fDlPop hM hl hp hH1 T.mu hf y1 b2 q7 ge
  refine ⟨vs, key, .ref q, b2, r1.key q5, by rw [(b4.kix (k := key)).2 n' q7, v1]; rfl, q, rfl, ⟨us, SqL.of (w2.sH _ _ sq)⟩, ?_⟩
  exact k _ S' _ (x1.ss.trans ss) w2 ⟨le, fun S2 H2 x2 s2 => itl_at (SqL.of (x2.sh _ _ (s2 _ _ sq))) (rl.mono s2) x2.sh⟩
end
end Dl
set_option maxHeartbeats 1000000
/-! self.f != {}; list(self.f); methods that change self; instances made. -/
namespace Dl
open PySem L2 PyProof.Rows
def rNeD0 : R2 := fun x y H Q => ∃ a b kvs, x = .ref a ∧ y = .ref b ∧ H a = some (.dK kvs) ∧ H b = some (.dK []) ∧ Q (.bl (!kvs.isEmpty)) H
theorem op_neD0 {X : Cx} (hu : X.A.units < cLine) : OpR X (compareOp .NotEq) rNeD0 := by
  intro pins s σ H x y v u Q I rx ry ⟨a, b, kvs, ex, ey, ha, hb, q⟩
  subst ex ey
  cases rx
  cases ry
  obtain ⟨_, ma, vs, rel, da⟩ := dk_of I.hok ha
  obtain ⟨_, mb, ws, rel2, db⟩ := dk_of I.hok hb
  have e2 : ws = [] := List.length_eq_zero_iff.mp (by rw [← rel2.length]; rfl)
  subst e2
  refine PySem.W.keq_ne ma mb da db hu (r := true) (fun hl => ?_) ?_
  · have : vs = [] := List.length_eq_zero_iff.mp hl
    subst this; exact .nil
  · refine ⟨.bl (!kvs.isEmpty), H, I, ?_, q⟩
    have e : (vs.length == ([] : List (Key × Value)).length && true) = kvs.isEmpty := by
      have := rel.length
      cases kvs with
      | nil => rw [← this]; rfl
      | cons z r => rw [← this]; rfl
    rw [e]; rfl
section
variable {X : Cx} {Γ : CM} {E : WX} {rm : RM} {M M1 : List Mode} {e o e1 e2 : Expr} {es : List Expr} {t to t1 t2 : TE} {tr : TA} {f fo f1 f2 : Ev} {fr : Env → Option (List D)} {m mo m1 m2 : Mode} {pos apos cpos p2 : Pos} {ks : List AK}
theorem dt_fNe0 (K : PySem.W.Frag) {i : Nat} {c n x : Str} {p fpos dp : Pos} (hM : md M i = .ow) (T : FldD K Γ c x) (hu : X.A.units + 64 < cLine) (hN : X.N[i]? = some n := by rfl) (hv : Vis X.env.scope n := by first | exact Or.inl rfl | exact Or.inr (Or.inl rfl) | exact Or.inr (Or.inr rfl)) (hd : (n == ("__debug__" : Str)) = false := by decide)
    (hcd : (n == ("__classdict__" : Str)) = false := by decide) (hb : attributeBase (.Name n p) x X.env (eval (.Name n p) X.env) = eval (.Name n p) X.env := by rfl) (hm : behindInMarks .NotEq (.Dict [] [] dp) = false := by first | exact nomark _ | rfl) (hK : X.K = K := by rfl) :
    DT Γ X M (.Compare (.Attribute (.Name n p) x fpos) [.NotEq] [.Dict [] [] dp] pos) (tTest (tOp rNeD0 (tFld K (tVar i) x) tDNewK)) (fun δ => (dlAt c x i δ).map fun r => !r.2.isEmpty) := by
  subst hK
  refine ⟨pt_cmpR (op_neD0 (by omega)) (pe_fld (pe_var hN hv hd hcd) hb) pe_dnewK hm, fun S0 H0 S H σ δ Q b w ef k => ?_⟩
  obtain ⟨⟨fs, kvs⟩, q1, q2⟩ := map_some ef
  obtain ⟨hl, hf⟩ := dlAt_some q1
  dsimp only at hl hf q2
  obtain ⟨a, C, dx, ws, hp, hH, hg, hO, nd⟩ := w.ins hM hl
  obtain ⟨p0, vs, y1, y2, y3, y4, _⟩ := w.fDl hM hl hp hH T.mu hf
  refine ⟨_, hp, a, C, dx, ws, _, rfl, hH, (T.ok C hg).1, (T.ok C hg).2, y1, fun pn hpn => ?_⟩
  have ne : p0 ≠ pn := fun z => by rw [z, hpn] at y2; cases y2
  refine ⟨p0, pn, vs, rfl, rfl, by rw [upd_ne ne]; exact y2, upd_same, b, ?_, k S _ (Ext.owned w.sH hpn _)⟩
  have e : vs.isEmpty = kvs.isEmpty := by
    have := y4.len
    cases kvs with
    | nil => rw [List.length_eq_zero_iff.mp this]; rfl
    | cons z r => cases vs with
      | nil => cases this
      | cons z' r' => rfl
  rw [e, q2]
theorem OwnDL.keysR {K : PySem.W.Frag} {S H : Hp} : ∀ {kvs : List (Key × List D)} {vs : List (Key × V)}, (kvs.all fun kv => kOk kv.1) = true → OwnDL K Γ S H kvs vs → RepL K Γ S (kvs.map fun kv => kD kv.1) (vs.map fun kv => kV kv.1)
  | [], _, _, h => by cases (show _ = [] from h); rfl
  | (k, e) :: kvs, _, h, ⟨q, ws, us, e1, e3, l, r, t⟩ => by
    subst e1
    rw [List.all_cons, Bool.and_eq_true] at h
    exact ⟨_, _, rfl, rep_key h.1, OwnDL.keysR h.2 t⟩
def vKeysF (c x : Str) (i : Nat) : Ev := fun δ => (dlAt c x i δ).bind fun r => if (r.2.all fun kv => kOk kv.1) = true then some (.lst (r.2.map fun kv => kD kv.1)) else none
theorem de_fKeys (K : PySem.W.Frag) {i : Nat} {c n x : Str} {p fpos np : Pos} (hM : md M i = .ow) (T : FldD K Γ c x) (hn : X.mg "list" = none) (hc : X.calm = true := by rfl) (hN : X.N[i]? = some n := by rfl) (hv : Vis X.env.scope n := by first | exact Or.inl rfl | exact Or.inr (Or.inl rfl) | exact Or.inr (Or.inr rfl)) (hd : (n == ("__debug__" : Str)) = false := by decide)
    (hcd : (n == ("__classdict__" : Str)) = false := by decide) (hb : attributeBase (.Name n p) x X.env (eval (.Name n p) X.env) = eval (.Name n p) X.env := by rfl) (hgl : Gl X "list" := by rfl) (h3 : starEach [.Attribute (.Name n p) x fpos] X.env = (false, eval (.Attribute (.Name n p) x fpos) X.env) :: starEach [] X.env := by rfl) (h4 : (backTo pos (starEach [] X.env)).any (·.1) = false := by rfl) (hK : X.K = K := by rfl) :
    DE Γ X M (.Call (.Name "list" np) [.Attribute (.Name n p) x fpos] [] pos) (tCB (rListK K) (tCons (tFld K (tVar i) x) tNil)) (vKeysF c x i) .ow := by
  subst hK
  refine ⟨pe_callTy (cd_listD (Γ := Γ) (m := .ow) rfl hc).call hgl hn (by decide +kernel) (pa_cons (pe_fld (pe_var hN hv hd hcd) hb) pa_nil h3) (by decide) (by decide) h3 h4, fun S0 H0 S H σ δ Q d w ef k => ?_⟩
  obtain ⟨⟨fs, kvs⟩, q1, q2⟩ := bind_some ef
  obtain ⟨hl, hf⟩ := dlAt_some q1
  dsimp only at hl hf q2
  obtain ⟨hk, rfl⟩ := ite_some q2
  obtain ⟨a, C, dx, ws, hp, hH, hg, hO, nd⟩ := w.ins hM hl
  obtain ⟨p0, vs, y1, y2, y3, y4, _⟩ := w.fDl hM hl hp hH T.mu hf
  refine ⟨_, hp, a, C, dx, ws, _, rfl, hH, (T.ok C hg).1, (T.ok C hg).2, y1, .inr (.inl ⟨p0, vs, rfl, .inl y2, fun l hl => ?_⟩)⟩
  exact k.newL rfl w.sH (by rw [List.length_map]; exact y3) (y4.keysR hk) hl
/-! ### methods -/
theorem call_N {K : PySem.W.Frag} {S0 H0 S H : Hp} {σ : L2.St} {δ : Env} {Q : VK} {pm : List Mode} {n np : Nat} {io : List Nat} {sv : Sv} {ds : List D} {vs : List V} {r0 : Res} {r : Res × Env} (ok : OkAK M ks) (hpm : ks.map AK.m = pm) (w : Wd K Γ S0 H0 S H σ M δ) (ra : MArgs K Γ H0 S H σ δ ks ds vs) (e3 : denMN n np io sv ds = some r0) (e4 : resF ks δ r0 = some r)
    (q : FinF K Γ S0 H0 S E M σ Q r) : spM K Γ pm (denMN n np io sv) vs H Q E0 := by
  have nx : ∀ c fs, r0 ≠ .ex c fs := fun c fs z => by
    subst z
    unfold denMN at e3
    split at e3
    · obtain ⟨o, _, z⟩ := bind_some e3
      cases o with
      | nx δ => have z : (pkR io .non δ).map Res.ok = some (.ex c fs) := z; cases q : pkR io .non δ with
        | none => rw [q] at z; cases z
        | some d => rw [q] at z; cases z
      | rt d => cases z
      | ex c' fs' => cases z
    · cases e3
  refine call_M (Ex := E0) ok hpm w ra e3 e4 ?_
  obtain ⟨r, δ'⟩ := r
  cases r with
  | ok d => exact q
  | ex c fs =>
    cases r0 with
    | ex c' fs' => exact (nx _ _ rfl).elim
    | ok d =>
      cases d with
      | tup xs =>
        cases xs with
        | nil => cases e4
        | cons d outs =>
          have e4 : (if outs.length = (ioIx ks).length then some (Res.ok d, putIo ks outs δ) else none) = some (Res.ex c fs, δ') := e4
          split at e4 <;> cases e4
      | _ => cases e4
def fMeth (i : Nat) (c mn : Str) (ks : List AK) (den : List D → Option Res) (fr : Env → Option (List D)) : Fv := fun δ => (insAt c i δ).bind fun fs => if (fs.lookup mn).isNone = true then (fr δ).bind fun ds => (den (.ins c fs :: ds)).bind fun r => resF (.io i :: ks) δ r else none
theorem snd_methM {K : PySem.W.Frag} {i : Nat} {c mn : Str} {C : Addr} {pm : List Mode} {n np : Nat} {io : List Nat} {sv : Sv} (hg : iM Γ c = some C) (ok : OkAK M (.io i :: ks)) (hpm : (AK.io i :: ks).map AK.m = pm) (ha : SndAm K Γ M tr fr ks) :
    SndF K Γ E M (tMeth C mn (spM K Γ pm (denMN n np io sv)) [] E0 (tVar i) tr) (fMeth i c mn ks (denMN n np io sv) fr) := fun S0 H0 S H σ δ Q r w ef q => by
  obtain ⟨fs, q1, q2⟩ := bind_some ef
  have hl := insAt_some q1
  obtain ⟨hn, q2⟩ := ifN q2
  obtain ⟨ds, q3, q4⟩ := bind_some q2
  obtain ⟨r0, q5, q6⟩ := bind_some q4
  obtain ⟨a, C', dx, ws, hp, hH, hg', hO, nd⟩ := w.ins (ok.io i List.mem_cons_self) hl
  have eC : C' = C := Option.some.inj (hg'.symm.trans hg)
  subst eC
  refine ⟨_, hp, a, dx, ws, rfl, hH, hO.lookN (by simpa using hn), ?_⟩
  refine ha S0 H0 S H σ δ _ ds w q3 fun vs S1 H1 x1 r1 => ?_
  show spM K Γ pm (denMN n np io sv) (.ref a :: (vs ++ [])) H1 Q E0
  rw [List.append_nil]
  exact call_N (E := E) ok hpm (w.mono x1) ⟨_, _, _, _, rfl, rfl, ⟨hl, hp⟩, r1⟩ q5 q6 (q.ss x1.ss)
theorem df_meth (K : PySem.W.Frag) {i : Nat} {c mn nn : Str} {C fa : Addr} {fd : FuncData} {ps : List Str} {k : Nat} {np' : Pos} {pm : List Mode} {n np : Nat} {io : List Nat} {sv : Sv} (cl : Cls K C) (me : Meth K C mn fa) (hg : iM Γ c = some C) (F : FnOk X.prog X.w K X.mg X.base CX0 k fa fd ps (spM K Γ pm (denMN n np io sv))) (hr : Room k X.A) (hb : Binds K fd ps [])
    (ha : DAm Γ X M (e :: es) tr fr ks) (hok : okAKb M (.io i :: ks) = true := by decide) (hpm : (AK.io i :: ks).map AK.m = pm := by rfl) (hN : X.N[i]? = some nn := by rfl) (hv : Vis X.env.scope nn := by first | exact Or.inl rfl | exact Or.inr (Or.inl rfl) | exact Or.inr (Or.inr rfl)) (hd : (nn == ("__debug__" : Str)) = false := by decide) (hcd : (nn == ("__classdict__" : Str)) = false := by decide) {pl : Sem Bool} (h3 : starEach (e :: es) X.env = (false, eval e X.env) :: starEach es X.env := by rfl) (h4 : (backTo pos (starEach es X.env)).any (·.1) = false := by rfl)
    (ht : eval (.Call (.Attribute (.Name nn np') mn apos) (e :: es) [] pos) X.env = (do
      let ov ← eval (.Name nn np') X.env
      standAt apos.atName
      let (f, first) ← holding [ov] (getMethod ov mn pl)
      callWith pos f first (backTo pos (starEach (e :: es) X.env)) (backToKw pos (keywordEach [] X.env))) := by rfl) (hK : X.K = K := by rfl) :
    DF Γ X E M (.Call (.Attribute (.Name nn np') mn apos) (e :: es) [] pos) (tMeth C mn (spM K Γ pm (denMN n np io sv)) [] E0 (tVar i) tr) (fMeth i c mn ks (denMN n np io sv) fr) := by
  subst hK
  exact ⟨pe_meth (pe_var hN hv hd hcd) cl me F hr hb .nil pass0 ha.pa h3 h4 ht, snd_methM hg (OkAK.of hok) hpm ha.snd⟩
theorem am_nil0 {K : PySem.W.Frag} : SndAm K Γ M tNil aNil [] := fun S0 H0 S H σ δ Q ds w ef k => by cases ef; exact k [] S H (Ext.refl w.sH) ⟨rfl, rfl⟩
theorem df_meth0 (K : PySem.W.Frag) {i : Nat} {c mn nn : Str} {C fa : Addr} {fd : FuncData} {ps : List Str} {k : Nat} {np' : Pos} {pm : List Mode} {n np : Nat} {io : List Nat} {sv : Sv} (cl : Cls K C) (me : Meth K C mn fa) (hg : iM Γ c = some C) (F : FnOk X.prog X.w K X.mg X.base CX0 k fa fd ps (spM K Γ pm (denMN n np io sv))) (hr : Room k X.A) (hb : Binds K fd ps [])
    (hok : okAKb M [.io i] = true := by decide) (hpm : [AK.io i].map AK.m = pm := by rfl) (hN : X.N[i]? = some nn := by rfl) (hv : Vis X.env.scope nn := by first | exact Or.inl rfl | exact Or.inr (Or.inl rfl) | exact Or.inr (Or.inr rfl)) (hd : (nn == ("__debug__" : Str)) = false := by decide) (hcd : (nn == ("__classdict__" : Str)) = false := by decide) {pl : Sem Bool}
    (ht : eval (.Call (.Attribute (.Name nn np') mn apos) [] [] pos) X.env = (do
      let ov ← eval (.Name nn np') X.env
      standAt apos.atName
      let (f, first) ← holding [ov] (getMethod ov mn pl)
      callWith pos f first (backTo pos (starEach [] X.env)) (backToKw pos (keywordEach [] X.env))) := by rfl) (hK : X.K = K := by rfl) :
    DF Γ X E M (.Call (.Attribute (.Name nn np') mn apos) [] [] pos) (tMeth C mn (spM K Γ pm (denMN n np io sv)) [] E0 (tVar i) tNil) (fMeth i c mn [] (denMN n np io sv) aNil) := by
  subst hK
  exact ⟨pe_meth0 (pe_var hN hv hd hcd) cl me F hr hb .nil pass0 ht, snd_methM hg (OkAK.of hok) hpm am_nil0⟩
/-! ### C(..) -/
def vMk (c : Str) (den : List D → Option Res) (fr : Env → Option (List D)) : Ev := fun δ => (fr δ).bind fun ds => (den (.ins c [] :: ds)).bind fun r => match r with
  | .ok (.tup [.non, .ins c' fs]) => if c' = c then some (.ins c fs) else none
  | _ => none
theorem Wd.new {K : PySem.W.Frag} {S H : Hp} {pm : List Mode} {c : Str} {a C dx : Addr} {ds : List D} {vs : List V} (sh : Same S H) (hg : iM Γ c = some C) (na : H a = none) (ndx : H dx = none) (ne : dx ≠ a) (r : ArgMs K Γ S H pm ds vs) (hp : pm.all (fun m => m == .sh || m == .bo) = true) :
    Wd K Γ S H S (upd (upd H dx (.own a)) a (.ins C dx [])) ((V.ref a :: vs).map some) (.ow :: pm) ((D.ins c [] :: ds).map some) := by
  have hh : Same H (upd (upd H dx (.own a)) a (.ins C dx [])) := fun b o e => by rw [upd_ne (ne_of_none e na), upd_ne (ne_of_none e ndx)]; exact e
  have hm : ∀ i, md pm i = .sh ∨ md pm i = .bo := fun i => by
    unfold md
    rw [List.getD_eq_getElem?_getD]
    cases q : pm[i]? with
    | none => exact .inl rfl
    | some m => have := List.all_eq_true.mp hp m (List.mem_of_getElem? q); simpa using this
  have nw : ∀ i, md (.ow :: pm) (i + 1) ≠ .ow := fun i z => by
    have z : md pm i = .ow := z
    rcases hm i with y | y <;> rw [y] at z <;> cases z
  have ha : upd (upd H dx (.own a)) a (.ins C dx []) a = some (.ins C dx []) := upd_same
  have hf : foot Γ (upd (upd H dx (.own a)) a (.ins C dx [])) a (.ins c []) = [a] := by rw [ins_foot ha]; rfl
  refine ⟨⟨Same.refl _, hh, sh.trans hh, fun _ _ _ _ n => n⟩, by rw [List.length_map, List.length_map, List.length_cons, List.length_cons, r.len.1, r.len.2], fun i d h => ?_, fun i d b h m s p hp => ?_, fun i j di dj b b' p h1 h2 m1 m2 s1 s2 _ _ => ?_, fun i z => ?_⟩
  · cases i with
    | zero =>
      cases h
      exact ⟨.ref a, rfl, a, rfl, fun p hp => by rw [hf] at hp; rw [List.mem_singleton.mp hp]; exact sh.free na, C, dx, [], ha, hg, rfl, by simp [footFs]⟩
    | succ i =>
      have h : (ds.map some)[i]? = some (some d) := h
      rw [List.getElem?_map] at h
      cases q : ds[i]? with
      | none => rw [q] at h; cases h
      | some d' =>
        rw [q] at h; cases h
        obtain ⟨v, m, h1, h2, h3⟩ := ArgMs.at r q
        refine ⟨v, by show (vs.map some)[i]? = _; rw [List.getElem?_map, h1]; rfl, ?_⟩
        have em : md (.ow :: pm) (i + 1) = m := by show md pm i = m; unfold md; rw [List.getD_eq_getElem?_getD, h2]; rfl
        rw [em]
        have hm' := hm i
        have em' : md pm i = m := em
        rw [em'] at hm'
        rcases hm' with e | e
        · subst e; exact h3
        · subst e; exact h3
  · cases i with
    | zero =>
      cases h
      cases s
      rw [hf] at hp; rw [List.mem_singleton.mp hp]; exact na
    | succ i => exact (nw i m).elim
  · cases i with
    | zero =>
      cases j with
      | zero => rfl
      | succ j => exact (nw j m2).elim
    | succ i => exact (nw i m1).elim
  · cases i with
    | zero => cases z
    | succ i =>
      have z : md pm i = .rd := z
      rcases hm i with y | y <;> rw [y] at z <;> cases z
theorem de_makeO {c x : Str} {C fa : Addr} {fd : FuncData} {ps : List Str} {k : Nat} {p : Pos} {pm : List Mode} {n np : Nat} {io : List Nat} {sv : Sv} (K : PySem.W.Frag) (mk : Mk K C fa) (hg : iM Γ c = some C) (F : FnOk X.prog X.w K X.mg X.base CX0 k fa fd ps (spM K Γ (.ow :: pm) (denMN n np io sv))) (hr : Room (k + 1) X.A) (hm : X.mg x = some (.ref C)) (hb : Binds K fd ps [])
    (ha : DAr Γ X M (e :: es) tr fr pm) (hp : pm.all (fun m => m == .sh || m == .bo) = true := by rfl) (hgl : Gl X x := by rfl) (h2 : (x == ("__debug__" : Str)) = false := by decide) (h3 : starEach (e :: es) X.env = (false, eval e X.env) :: starEach es X.env := by rfl) (h4 : (backTo pos (starEach es X.env)).any (·.1) = false := by rfl) (hK : X.K = K := by rfl) :
    DE Γ X M (.Call (.Name x p) (e :: es) [] pos) (tMake C (spM K Γ (.ow :: pm) (denMN n np io sv)) [] E0 tr) (vMk c (denMN n np io sv) fr) .ow := by
  subst hK
  refine ⟨pe_make mk F hr hgl hm hb .nil pass0 ha.pa h2 h3 h4, fun S0 H0 S H σ δ Q d w ef q => ?_⟩
  obtain ⟨ds, e1, e2⟩ := bind_some ef
  obtain ⟨r0, e3, e4⟩ := bind_some e2
  refine ha.snd S0 H0 S H σ δ _ ds w e1 fun vs S1 H1 x1 r1 => ?_
  intro a dx na ndx ne
  show spM X.K Γ (.ow :: pm) (denMN n np io sv) (.ref a :: (vs ++ [])) _ _ E0
  rw [List.append_nil]
  refine ⟨S1, H1, .ins c [] :: ds, r0, by rw [List.length_cons, List.length_cons, r1.len.2], Wd.new x1.sh hg na ndx ne r1 hp, e3, ?_⟩
  cases r0 with
  | ex c' fs' => cases e4
  | ok d0 =>
    match d0, e4 with
    | .tup [.non, .ins c' fs], e4 =>
      obtain ⟨ec, rfl⟩ := ite_some (show (if c' = c then some (D.ins c fs) else none) = some d from e4)
      subst ec
      refine ⟨.non, [.ins c' fs], rfl, fun v S2 H2 w2 rv _ => ⟨rv, ?_⟩⟩
      have hd : (spread (.ow :: pm) [D.ins c' fs])[0]? = some (some (.ins c' fs)) := rfl
      have hs : ((V.ref a :: vs).map some)[0]? = some (some (V.ref a)) := rfl
      obtain ⟨t1, t2⟩ := w2.top rfl hd hs
      exact q (.ref a) S2 H2 (x1.trans w2.ext) ⟨a, rfl, t1, t2⟩ fun _ b eb p hp => by
        cases eb
        exact x1.hh.free (w2.own 0 _ a hd rfl hs p hp)
/-! ### C(..).m() -/
def vTmp (c mn : Str) (den : List D → Option Res) (fo : Ev) : Ev := fun δ => (fo δ).bind fun d => match d with
  | .ins c' fs => if c' = c ∧ (fs.lookup mn).isNone = true then (den [.ins c fs]).bind fun r => match r with
    | .ok (.tup [res, _]) => some res
    | _ => none
    else none
  | _ => none
theorem de_tmp (K : PySem.W.Frag) {rm : Mode} {c mn : Str} {C fa : Addr} {fd : FuncData} {ps : List Str} {k : Nat} {n np : Nat} {io : List Nat} {sv : Sv} (cl : Cls K C) (me : Meth K C mn fa) (hg : iM Γ c = some C) (F : FnOk X.prog X.w K X.mg X.base CX0 k fa fd ps (spMR K Γ [.ow] rm (denMN n np io sv))) (hr : Room k X.A) (hb : Binds K fd ps [])
    (ho : DE Γ X M o to fo .ow) (hrm : okS rm = true := by rfl) {pl : Sem Bool}
    (ht : eval (.Call (.Attribute o mn apos) [] [] pos) X.env = (do
      let ov ← eval o X.env
      standAt apos.atName
      let (f, first) ← holding [ov] (getMethod ov mn pl)
      callWith pos f first (backTo pos (starEach [] X.env)) (backToKw pos (keywordEach [] X.env))) := by rfl) (hK : X.K = K := by rfl) :
    DE Γ X M (.Call (.Attribute o mn apos) [] [] pos) (tMeth C mn (spMR K Γ [.ow] rm (denMN n np io sv)) [] E0 to tNil) (vTmp c mn (denMN n np io sv) fo) rm := by
  subst hK
  refine ⟨pe_meth0 ho.pe cl me F hr hb .nil pass0 ht, fun S0 H0 S H σ δ Q d w ef q => ?_⟩
  obtain ⟨d0, e1, e2⟩ := bind_some ef
  cases d0 with
  | ins c' fs =>
    obtain ⟨⟨ec, hn⟩, e2⟩ := ifN (show (if c' = c ∧ (fs.lookup mn).isNone = true then _ else none) = some d from e2)
    subst ec
    obtain ⟨r0, e3, e4⟩ := bind_some e2
    refine ho.snd S0 H0 S H σ δ _ _ w e1 fun v S1 H1 x1 r1 fr => ?_
    obtain ⟨a, ev, nf, t⟩ := r1
    subst ev
    have fresh := fr rfl a rfl
    obtain ⟨C', dx, ws, hH, hg', hO, nd⟩ := t
    have eC : C' = C := Option.some.inj (hg'.symm.trans hg)
    subst eC
    refine ⟨a, dx, ws, rfl, hH, hO.lookN (by simpa using hn), ?_⟩
    show spMR X.K Γ [.ow] rm (denMN n np io sv) [.ref a] H1 Q E0
    classical
    let Hl : Hp := fun b => if b ∈ foot Γ H1 a (.ins c' fs) then none else H1 b
    have w0 : Wd X.K Γ S1 Hl S1 H1 ([V.ref a].map some) [.ow] ([D.ins c' fs].map some) := by
      refine ⟨⟨Same.refl _, fun b o e => ?_, x1.sh, fun _ _ _ _ n => n⟩, rfl, fun i d h => ?_, fun i d b h m s p hp => ?_, fun i j di dj b b' p h1 h2 m1 m2 s1 s2 _ _ => ?_, fun i z => ?_⟩
      · by_cases z : b ∈ foot Γ H1 a (.ins c' fs)
        · simp [Hl, z] at e
        · simp only [Hl, if_neg z] at e; exact e
      · cases i with
        | zero => cases h; exact ⟨.ref a, rfl, a, rfl, nf, C', dx, ws, hH, hg, hO, nd⟩
        | succ i => cases h
      · cases i with
        | zero => cases h; cases s; exact if_pos hp
        | succ i => cases h
      · cases i with
        | zero => cases j with
          | zero => rfl
          | succ j => cases h2
        | succ i => cases h1
      · cases i with
        | zero => cases z
        | succ i => cases z
    refine ⟨S1, Hl, [.ins c' fs], r0, rfl, w0, e3, ?_⟩
    cases r0 with
    | ex c2 fs2 => cases e4
    | ok d1 =>
      match d1, e4 with
      | .tup [res, o2], e4 =>
        cases e4
        refine ⟨d, [o2], rfl, fun v S2 H2 w2 rv fr2 => ?_⟩
        have hl : ∀ b o, H b = some o → Hl b = some o := fun b o e => by
          have z : b ∉ foot Γ H1 a (.ins c' fs) := fun z => by rw [fresh b z] at e; cases e
          simp only [Hl, if_neg z]; exact x1.hh _ _ e
        refine (q.h0 hrm : Kont X.K Γ Hl S H rm d Q) v S2 H2 ⟨x1.ss.trans w2.ext.ss, fun b o e => w2.ext.hh b o (hl b o e), w2.ext.sh, fun b o e tt n => w2.ext.fr b o (hl b o e) tt (x1.fr b o e tt n)⟩ rv fun z b eb p hp => ?_
        have hp0 := fr2 z b eb p hp
        cases hh : H p with
        | none => rfl
        | some o => rw [hl p o hh] at hp0; cases hp0
  | _ => cases e2
end
end Dl
/-! lists of lists, dicts of lists, instances that are changed: typed. -/
namespace Dl
open PySem L2
def eNL {α : Type} (e : α → D) (l : List (List α)) : D := .nst false (l.map fun xs => ((.inl 0 : Key), xs.map e))
def eNst {κ α : Type} (ke : κ → Key) (e : α → D) (l : List (κ × List α)) : D := .nst true (l.map fun p => (ke p.1, p.2.map e))
def napT {α : Type} (l : List (List α)) (k : Int) (x : α) : Option (List (List α)) := (ixN l.length k).bind fun n => (l[n]?).bind fun xs => if xs.length < sizeLine then some (l.set n (xs ++ [x])) else none
def kIxA {κ α : Type} [DecidableEq κ] (k : κ) : List (κ × α) → Option Nat
  | [] => none
  | p :: r => if p.1 = k then some 0 else (kIxA k r).map (· + 1)
def sdPA {κ α : Type} [DecidableEq κ] (k : κ) (l : List (κ × List α)) : Option (List (κ × List α)) := match kIxA k l with
  | some _ => if l.length < sizeLine then some l else none
  | none => if l.length < sizeLine then some (l ++ [(k, [])]) else none
def apKA {κ α : Type} [DecidableEq κ] (k : κ) (x : α) (l : List (κ × List α)) : Option (List (κ × List α)) := (kIxA k l).bind fun n => (l[n]?).bind fun p => if p.2.length < sizeLine then some (l.set n (p.1, p.2 ++ [x])) else none
/-- setdefault(k, []).append(x) -/
def sdT {κ α : Type} [DecidableEq κ] (k : κ) (x : α) (l : List (κ × List α)) : Option (List (κ × List α)) := (sdPA k l).bind (apKA k x)
def popNT {κ α : Type} [DecidableEq κ] (k : κ) (l : List (κ × List α)) : Option (List α × List (κ × List α)) := (kIxA k l).bind fun n => (l[n]?).map fun p => (p.2, l.filter fun p => decide (p.1 ≠ k))
section
variable {κ α β γ ι σ ρ : Type} [DecidableEq κ] {f fk fv fx : Ev} {x : α} {T : Option α} {δ : Env} {e : α → D} {ke : κ → Key} {s s' : Sv} {g : β → Out} {l : List (κ × List α)} {i : Nat}
abbrev encN (ke : κ → Key) (e : α → D) (l : List (κ × List α)) : List (Key × List D) := l.map fun p => (ke p.1, p.2.map e)
theorem kIx_enc (inj : ∀ a b, ke a = ke b → a = b) (k : κ) : ∀ l : List (κ × List α), kIx (ke k) (encN ke e l) = kIxA k l
  | [] => rfl
  | p :: r => by
    show (if ke p.1 = ke k then some 0 else (kIx (ke k) (encN ke e r)).map (· + 1)) = (if p.1 = k then some 0 else (kIxA k r).map (· + 1))
    rw [kIx_enc inj k r]
    by_cases c : p.1 = k
    · rw [if_pos c, if_pos (by rw [c])]
    · rw [if_neg c, if_neg fun z => c (inj _ _ z)]
theorem sdP_enc (inj : ∀ a b, ke a = ke b → a = b) {k : κ} {l l0 : List (κ × List α)} (h : sdPA k l = some l0) : sdP (ke k) (encN ke e l) = some (encN ke e l0) := by
  unfold sdPA at h
  unfold sdP
  rw [kIx_enc inj k l, List.length_map]
  cases q : kIxA k l with
  | some n => rw [q] at h; obtain ⟨c, rfl⟩ := ite_some h; exact if_pos c
  | none => rw [q] at h; obtain ⟨c, rfl⟩ := ite_some h; dsimp only; rw [if_pos c]; unfold encN; rw [List.map_append]; rfl
theorem apK_enc (inj : ∀ a b, ke a = ke b → a = b) {k : κ} {l l0 : List (κ × List α)} (h : apKA k x l = some l0) : apK (ke k) (e x) (encN ke e l) = some (encN ke e l0) := by
  obtain ⟨n, q1, q2⟩ := bind_eq h
  obtain ⟨p, q3, q4⟩ := bind_eq q2
  obtain ⟨c, rfl⟩ := ite_some q4
  unfold apK
  rw [kIx_enc inj k l, q1, Option.bind_some]
  show ((encN ke e l)[n]?).bind _ = _
  unfold encN
  rw [List.getElem?_map, q3]
  show (if (p.2.map e).length < sizeLine then some ((encN ke e l).set n (ke p.1, p.2.map e ++ [e x])) else none) = _
  rw [List.length_map, if_pos c]
  unfold encN
  rw [List.map_set]
  simp
/-! local ones -/
theorem lcN {γ : Type} {e2 : γ → D} {it : Env → Option (List D)} {set : Hv} {vs : List Nat} {E' : γ → Env} {xs : List γ} (hi : ItP it δ e2 xs) (hs : ∀ x, set (e2 x) (wipeE δ vs) = some (E' x)) : EvP (vLcN it set vs) δ (eNL e) (xs.map fun _ => ([] : List α)) := by
  unfold EvP ItP at *
  unfold vLcN
  rw [hi, Option.bind_some, lcT_ok (e2 := fun _ : Unit => D.non) (G := fun _ => some ()) hs (fun x => TsP.m (show TsP tsYes (E' x) true from rfl)) (fun x y q => by cases q; rfl) xs _ (lcT_pure (fun _ => true) (fun _ => ()) xs)]
  show some (D.nst false _) = _
  unfold eNL
  rw [List.map_map, List.map_map, List.map_map, List.filter_eq_self.mpr (fun _ _ => rfl)]
  rfl
theorem stNApp {K : List (List α) → Option β} {k : Option Int} {ll : List (List α)} (b : EvM fk δ D.int k) (a : EvM fx δ e T) (h : ∀ v, St s' (δ.set i (some (eNL e v))) g (K v)) (hv : δ[i]? = some (some (eNL e ll)) := by rfl) : St (sSeq (sNApp i fk fx) s') δ g (k.bind fun k => T.bind fun x => (napT ll k x).bind K) := fun r q => by
  obtain ⟨k', q1, q2⟩ := bind_eq q
  obtain ⟨y, q3, q4⟩ := bind_eq q2
  obtain ⟨v, q5, q6⟩ := bind_eq q4
  obtain ⟨n, z1, z2⟩ := bind_eq q5
  obtain ⟨xs, z3, z4⟩ := bind_eq z2
  obtain ⟨c, rfl⟩ := ite_some z4
  have : sNApp i fk fx δ = some (.nx (δ.set i (some (eNL e (ll.set n (xs ++ [y])))))) := by
    unfold sNApp
    rw [vVar_def, hv]
    show (match eNL e ll with | .nst false kvs => _ | _ => none) = _
    unfold eNL
    show (fk δ).bind _ = _
    rw [b k' q1, Option.bind_some]
    show (ixN (ll.map _).length k').bind _ = _
    rw [List.length_map, z1, Option.bind_some, List.getElem?_map, z3]
    show (fx δ).bind _ = _
    rw [a y q3, Option.bind_some]
    show (if (xs.map e).length < sizeLine then _ else none) = _
    rw [List.length_map, if_pos c, List.map_set]
    simp
  rw [sSeq_def, this]
  exact h _ r q6
theorem stRetPl {ll : List (List α)} (hv : δ[i]? = some (some (eNL e ll)) := by rfl) : St (sRetPl i) δ (fun r => .rt (eL (eL e) r)) (some ll) := fun r q => by
  cases q
  unfold sRetPl
  rw [vVar_def, hv]
  show some (Out.rt (.lst _)) = _
  unfold eL
  rw [List.map_map]; rfl
theorem nnRetPl : NoNx (sRetPl i) := fun δ δ' h => by
  unfold sRetPl at h
  obtain ⟨d, _, q⟩ := bind_eq h
  cases d with
  | nst b kvs => cases b <;> cases q
  | _ => cases q
theorem stSdApp {ek : κ → D} {K : List (κ × List α) → Option β} {k : Option κ} (inj : ∀ a b, ke a = ke b → a = b) (hk : ∀ j, keyD (ek j) = some (ke j)) (b : EvM fk δ ek k) (a : ∀ d, EvM fx (δ.set i d) e T) (h : ∀ v, St s' (δ.set i (some (eNst ke e v))) g (K v)) (hv : δ[i]? = some (some (eNst ke e l)) := by rfl) :
    St (sSeq (sSdApp i fk fx) s') δ g (k.bind fun k => T.bind fun x => (sdT k x l).bind K) := fun r q => by
  obtain ⟨k', q1, q2⟩ := bind_eq q
  obtain ⟨y, q3, q4⟩ := bind_eq q2
  obtain ⟨v, q5, q6⟩ := bind_eq q4
  obtain ⟨l0, z1, z2⟩ := bind_eq q5
  have : sSdApp i fk fx δ = some (.nx (δ.set i (some (eNst ke e v)))) := by
    unfold sSdApp
    rw [vVar_def, hv]
    show (fk δ).bind _ = _
    rw [b k' q1, Option.bind_some, hk, Option.bind_some]
    show (sdP (ke k') (encN ke e l)).bind _ = _
    rw [sdP_enc inj z1, Option.bind_some, a _ y q3, Option.bind_some, apK_enc inj z2]; rfl
  rw [sSeq_def, this]
  exact h _ r q6
/-! fields -/
variable {c xf mn : Str} {fs : List (Str × D)} {xs : List α}
theorem insAt_of (hv : δ[i]? = some (some (.ins c fs))) : insAt c i δ = some fs := by
  unfold insAt
  rw [vVar_def, hv]
  exact if_pos rfl
theorem stFApp {K : List α → Option β} (a : EvM fx δ e T) (h : ∀ v, St s' (δ.set i (some (.ins c (setFD xf (eL e v) fs)))) g (K v)) (hv : δ[i]? = some (some (.ins c fs)) := by rfl) (hl : fs.lookup xf = some (eL e xs) := by rfl) : St (sSeq (sFApp i c xf fx) s') δ g (T.bind fun y => (appT xs y).bind K) := fun r q => by
  obtain ⟨y, q1, q2⟩ := bind_eq q
  obtain ⟨v, q3, q4⟩ := bind_eq q2
  unfold appT at q3
  obtain ⟨c', rfl⟩ := ite_some q3
  have : sFApp i c xf fx δ = some (.nx (δ.set i (some (.ins c (setFD xf (eL e (xs ++ [y])) fs))))) := by
    unfold sFApp
    rw [insAt_of hv, Option.bind_some, hl]
    show (fx δ).bind _ = _
    rw [a y q1, Option.bind_some]
    show (if (xs.map e).length < sizeLine then _ else none) = _
    rw [List.length_map, if_pos c']
    unfold eL
    rw [List.map_append]; rfl
  rw [sSeq_def, this]
  exact h _ r q4
theorem stFPut {K : List α → Option β} {k : Option Int} (a : EvM fv δ e T) (b : EvM fk δ D.int k) (h : ∀ v, St s' (δ.set i (some (.ins c (setFD xf (eL e v) fs)))) g (K v)) (hv : δ[i]? = some (some (.ins c fs)) := by rfl) (hl : fs.lookup xf = some (eL e xs) := by rfl) : St (sSeq (sFPut i c xf fk fv) s') δ g (T.bind fun x => k.bind fun k => (putLT xs k x).bind K) := fun r q => by
  obtain ⟨y, q1, q2⟩ := bind_eq q
  obtain ⟨j, q3, q4⟩ := bind_eq q2
  obtain ⟨v, q5, q6⟩ := bind_eq q4
  have hp : opPut (eL e xs) (.int j) (e y) = some (eL e v) := by
    have hs : sPut 0 (fun _ => some (.int j)) (fun _ => some (e y)) [some (eL e xs)] = some (.nx [some (eL e v)]) := put_eq (i := 0) (δ := [some (eL e xs)]) q5 rfl rfl rfl
    cases z : opPut (eL e xs) (.int j) (e y) with
    | none => have hs : ((opPut (eL e xs) (.int j) (e y)).map fun o' => Out.nx ([some (eL e xs)].set 0 (some o'))) = some (.nx [some (eL e v)]) := hs; rw [z] at hs; cases hs
    | some d =>
      have hs : ((opPut (eL e xs) (.int j) (e y)).map fun o' => Out.nx ([some (eL e xs)].set 0 (some o'))) = some (.nx [some (eL e v)]) := hs
      rw [z] at hs
      have := Out.nx.inj (Option.some.inj hs)
      exact (List.cons.inj this).1
  have : sFPut i c xf fk fv δ = some (.nx (δ.set i (some (.ins c (setFD xf (eL e v) fs))))) := by
    unfold sFPut
    rw [a y q1, Option.bind_some, insAt_of hv, Option.bind_some, hl, Option.bind_some, b j q3, Option.bind_some, hp]; rfl
  rw [sSeq_def, this]
  exact h _ r q6
theorem dlAt_of (hv : δ[i]? = some (some (.ins c fs))) (hl : fs.lookup xf = some (eNst ke e l)) : dlAt c xf i δ = some (fs, encN ke e l) := by
  unfold dlAt
  rw [insAt_of hv, Option.bind_some, hl]; rfl
theorem stFSd {ek : κ → D} {K : List (κ × List α) → Option β} {k : Option κ} (inj : ∀ a b, ke a = ke b → a = b) (hk : ∀ j, keyD (ek j) = some (ke j)) (b : EvM fk δ ek k) (a : ∀ d, EvM fx (δ.set i (some (.ins c (setFD xf d fs)))) e T) (h : ∀ v, St s' (δ.set i (some (.ins c (setFD xf (eNst ke e v) fs)))) g (K v)) (hv : δ[i]? = some (some (.ins c fs)) := by rfl) (hl : fs.lookup xf = some (eNst ke e l) := by rfl) :
    St (sSeq (sFSd i c xf fk fx) s') δ g (k.bind fun k => T.bind fun x => (sdT k x l).bind K) := fun r q => by
  obtain ⟨k', q1, q2⟩ := bind_eq q
  obtain ⟨y, q3, q4⟩ := bind_eq q2
  obtain ⟨v, q5, q6⟩ := bind_eq q4
  obtain ⟨l0, z1, z2⟩ := bind_eq q5
  have : sFSd i c xf fk fx δ = some (.nx (δ.set i (some (.ins c (setFD xf (eNst ke e v) fs))))) := by
    unfold sFSd
    rw [dlAt_of hv hl, Option.bind_some, b k' q1, Option.bind_some, hk, Option.bind_some, sdP_enc inj z1, Option.bind_some, a _ y q3, Option.bind_some, apK_enc inj z2]; rfl
  rw [sSeq_def, this]
  exact h _ r q6
/-- a field is made -/
theorem stFldN {k : Ow} {γ : Type} {e2 : γ → D} {TX : Option γ} {K : γ → Option β} (a : EvM fx δ e2 TX) (h : ∀ v, St s' (δ.set i (some (.ins c (fs ++ [(xf, e2 v)])))) g (K v)) (hv : δ[i]? = some (some (.ins c fs)) := by rfl) (hn : fs.lookup xf = none := by rfl) (hl : fs.length < 1000 := by first | decide | simp) (hk : k = .sh ∨ ∀ v, okOw k (e2 v) = true := by first | exact .inl rfl | exact .inr fun _ => rfl) : St (sSeq (sFldN i c xf k fx) s') δ g (TX.bind K) := fun r q => by
  obtain ⟨y, q1, q2⟩ := bind_eq q
  have : sFldN i c xf k fx δ = some (.nx (δ.set i (some (.ins c (fs ++ [(xf, e2 y)]))))) := by
    unfold sFldN
    rw [insAt_of hv, Option.bind_some, a y q1, Option.bind_some, if_pos ⟨by rw [hn]; rfl, hl, hk.imp id fun z => z y⟩]
  rw [sSeq_def, this]
  exact h _ r q2
/-- a loop over what is popped -/
theorem stForPop {ek : κ → D} {k : Option κ} {set : Hv} {body : Sv} {E : σ → Env} {E' : σ → α → Env} {Bd : σ → α → Option σ} {v0 : List (κ × List α) → σ} (inj : ∀ a b, ke a = ke b → a = b) (hk : ∀ j, keyD (ek j) = some (ke j)) (b : EvM fk δ ek k) (hE : ∀ l', E (v0 l') = δ.set i (some (.ins c (setFD xf (eNst ke e l') fs)))) (hs : ∀ v x, set (e x) (E v) = some (E' v x)) (hb : ∀ v x, St body (E' v x) (fun v => .nx (E v)) (Bd v x)) (hv : δ[i]? = some (some (.ins c fs)) := by rfl) (hl : fs.lookup xf = some (eNst ke e l) := by rfl) :
    St (sForF (iPop i c xf fk) set body) δ (fun v => .nx (E v)) (k.bind fun k => (popNT k l).bind fun r => foldT Bd r.1 (v0 r.2)) := fun r q => by
  obtain ⟨k', q1, q2⟩ := bind_eq q
  obtain ⟨⟨ys, l'⟩, q3, q4⟩ := bind_eq q2
  obtain ⟨n, z1, z2⟩ := bind_eq q3
  have : iPop i c xf fk δ = some (ys.map e, E (v0 l')) := by
    unfold iPop
    rw [dlAt_of hv hl, Option.bind_some, b k' q1, Option.bind_some, hk, Option.bind_some]
    show (kIx (ke k') (encN ke e l)).bind _ = _
    rw [kIx_enc inj, z1, Option.bind_some]
    show ((encN ke e l)[n]?).map _ = _
    unfold encN
    rw [List.getElem?_map]
    cases z3 : l[n]? with
    | none => rw [z3] at z2; cases z2
    | some p =>
      rw [z3] at z2; cases z2
      show some (p.2.map e, _) = _
      rw [hE]
      unfold eNst
      rw [List.filter_map]
      have ef : ((fun (p : Key × List D) => decide (p.1 ≠ ke k')) ∘ fun (p : κ × List α) => (ke p.1, p.2.map e)) = fun p => decide (p.1 ≠ k') := by
        funext p
        show decide (ke p.1 ≠ ke k') = decide (p.1 ≠ k')
        exact decide_eq_decide.mpr ⟨fun z y => z (by rw [y]), fun z y => z (inj _ _ y)⟩
      rw [ef]
  unfold sForF
  rw [this, Option.bind_some]
  exact foldT_ok hs hb ys (v0 l') r q4
theorem tsNe0 (hv : δ[i]? = some (some (.ins c fs)) := by rfl) (hl : fs.lookup xf = some (eNst ke e l) := by rfl) : TsP (fun δ => (dlAt c xf i δ).map fun r => !r.2.isEmpty) δ (!l.isEmpty) := by
  unfold TsP
  dsimp only
  rw [dlAt_of hv hl]
  show some (!(encN ke e l).isEmpty) = _
  cases l <;> rfl
theorem keysF {l : List (Int × List α)} (hv : δ[i]? = some (some (.ins c fs)) := by rfl) (hl : fs.lookup xf = some (eNst kI e l) := by rfl) : EvP (vKeysF c xf i) δ (eL D.int) (l.map (·.1)) := by
  unfold EvP vKeysF
  rw [dlAt_of hv hl, Option.bind_some, if_pos]
  · unfold eL encN
    rw [List.map_map, List.map_map]; rfl
  · rw [List.all_eq_true]
    intro p hp
    obtain ⟨q, _, rfl⟩ := List.mem_map.mp hp
    rfl
/-! methods, instances -/
theorem methF {ι γ : Type} {e2 : γ → D} {eio : ι → List D} {P : ι → Env} {TF : Option (γ × ι)} {ks : List AK} {den : List D → Option Res} {fr : Env → Option (List D)} (h : ArG fr δ (fun ds => den (.ins c fs :: ds)) (gOk (ePk e2 eio)) TF) (hP : ∀ d k, resF (.io i :: ks) δ (.ok (.tup (d :: eio k))) = some (.ok d, P k) := by intro _ _; rfl) (hv : δ[i]? = some (some (.ins c fs)) := by rfl) (hn : fs.lookup mn = none := by rfl) : FvM (fMeth i c mn ks den fr) δ e2 P TF := fun r q => by
  obtain ⟨ds, q1, q2⟩ := bind_eq (h r q)
  unfold fMeth
  rw [insAt_of hv, Option.bind_some, if_pos (by rw [hn]; rfl), q1, Option.bind_some, q2, Option.bind_some]
  exact hP _ _
theorem mkM {τ : Type} {ec : τ → D} {TF : Option (Unit × τ)} {den : List D → Option Res} {fr : Env → Option (List D)} (h : ArG fr δ (fun ds => den (.ins c [] :: ds)) (gOk (ePk eU fun k => [ec k])) TF) (hc : ∀ k, ∃ fs, ec k = .ins c fs := by exact fun _ => ⟨_, rfl⟩) : EvM (vMk c den fr) δ ec (TF.bind fun r => some r.2) := fun y q => by
  obtain ⟨r, q1, q2⟩ := bind_eq q
  cases q2
  obtain ⟨ds, z1, z2⟩ := bind_eq (h r q1)
  obtain ⟨fs', hf⟩ := hc r.2
  unfold vMk
  rw [z1, Option.bind_some, z2, Option.bind_some]
  show (match Res.ok (D.tup [D.non, ec r.2]) with | .ok (.tup [.non, .ins c' fs]) => if c' = c then some (D.ins c fs) else none | _ => none) = _
  rw [hf]
  exact if_pos rfl
theorem tmpM {τ γ ι : Type} {ec : τ → D} {e2 : γ → D} {eio : ι → List D} {fo : Ev} {TO : Option τ} {TM : τ → Option (γ × ι)} {den : List D → Option Res} (ho : EvM fo δ ec TO) (h : ∀ o r, TM o = some r → den [ec o] = some (gOk (ePk e2 eio) r)) (h1 : ∀ k, ∃ y, eio k = [y] := by exact fun _ => ⟨_, rfl⟩) (hc : ∀ k, ∃ fs, ec k = .ins c fs ∧ fs.lookup mn = none := by exact fun _ => ⟨_, rfl, rfl⟩) : EvM (vTmp c mn den fo) δ e2 (TO.bind fun o => (TM o).bind fun r => some r.1) := fun y q => by
  obtain ⟨o, q1, q2⟩ := bind_eq q
  obtain ⟨r, q3, q4⟩ := bind_eq q2
  cases q4
  obtain ⟨fs', hf, hn⟩ := hc o
  obtain ⟨y', hy⟩ := h1 r.2
  have hd := h o r q3
  unfold gOk ePk at hd
  rw [hf, hy] at hd
  unfold vTmp
  rw [ho o q1, Option.bind_some, hf]
  show (if c = c ∧ (fs'.lookup mn).isNone = true then _ else none) = _
  rw [if_pos ⟨rfl, by rw [hn]; rfl⟩, hd]; rfl
end
/-! ### the program's -/
structure TWorking where
  words : List (Option (Str × Int))
  waits : List Int
  ahead : List (List Int)
  agenda : List (Int × List Int)
def eWorking (s : TWorking) : D := .ins "Working" [("words", eL (eO (eT2 D.str D.int)) s.words), ("waits", eL D.int s.waits), ("ahead", eL (eL D.int) s.ahead), ("agenda", eNst kI D.int s.agenda)]
end Dl
set_option maxHeartbeats 4000000
namespace Pr
open PySem L2 Dl
def top (i : Nat) : Stmt := PySem.Challenge.pw_playboard_k23_whole_words_follow.main.body.getD i (.Pass ⟨0, 0, 0, 0⟩)
noncomputable section
/-- comers -/
abbrev s_comers : Stmt := (top 1)
theorem sc_comers : FnScope ["nexts", "known", "found", "at", "numbers", "number"] ["nexts", "known"] (defScope s_comers) := ⟨rfl, rfl, rfl, by decide +kernel, rfl, by decide +kernel, by decide +kernel⟩
def b0_comers : Sv := (sSeq (sNApp 2 (vVar 5) (vVar 3)) (sWip [5] sNext))
def b1_comers : Sv := (sSeq (sIf (vTst (v2 opIs (v2 opIx (vVar 1) (vVar 3)) (vC .non))) (sSeq (sFor (iAnyF (vVar 4)) (hName 5) b0_comers) (sWip [3, 4] sNext)) (sWip [3, 4] sNext)) sNext)
def sv_comers : Sv := (sSeq (sSet 2 (vLcN (iAnyF (vVar 0)) (hName 4) [4])) (sSeq (sFor (iEnumerateF (aCons (vVar 0) aNil)) (hTup 2 (hCons (hName 3) (hCons (hName 4) hNil))) b1_comers) (sRetPl 2)))
def den_comers : List D → Option D := denOf 6 2 .sh sv_comers
/-- begun -/
abbrev s_begun : Stmt := (top 2)
theorem sc_begun : FnScope ["known", "found", "at", "word"] ["known"] (defScope s_begun) := ⟨rfl, rfl, rfl, by decide +kernel, rfl, by decide +kernel, by decide +kernel⟩
def b0_begun : Sv := (sSeq (sIf (bAnd (vTst (v2 opNot (vVar 3) (vC .non))) (vTst (v2 opNe (v2 opIx (vVar 3) (vC (.int 0))) (vC (.str "even"))))) (sSeq (sSdApp 1 (v2 opIx (vVar 3) (vC (.int 1))) (vVar 2)) (sWip [2, 3] sNext)) (sWip [2, 3] sNext)) sNext)
def sv_begun : Sv := (sSeq (sSet 1 (vC (.nst true []))) (sSeq (sFor (iEnumerateF (aCons (vVar 0) aNil)) (hTup 2 (hCons (hName 2) (hCons (hName 3) hNil))) b0_begun) (sRet (vVar 1))))
def den_begun : List D → Option D := denOf 4 1 .ow sv_begun
/-- Working.__init__ -/
abbrev s_Working__init_ : Stmt := (inClass (top 3) 0)
theorem sc_Working__init_ : FnScope ["self", "nexts", "known", "numbers"] ["self", "nexts", "known"] (defScope s_Working__init_) := ⟨rfl, rfl, rfl, by decide +kernel, rfl, by decide +kernel, by decide +kernel⟩
def e0_Working__init_ : Ev := (vC1 opLen (aCons (vVar 3) aNil))
def sv_Working__init_ : Sv := (sSeq (sFldN 0 "Working" "words" .top (vC1 opList (aCons (vVar 2) aNil))) (sSeq (sFldN 0 "Working" "waits" .top (vLc (iAnyF (vVar 1)) (hName 3) tsYes e0_Working__init_ [3])) (sSeq (sFldN 0 "Working" "ahead" .sh (vC1 den_comers (aCons (vVar 1) (aCons (vVar 2) aNil)))) (sSeq (sFldN 0 "Working" "agenda" .dl (vC1 den_begun (aCons (vVar 2) aNil))) (sWip [1, 2] sNext)))))
def den_Working__init_ : List D → Option Res := denMN 4 3 [0] sv_Working__init_
/-- Working.told -/
abbrev s_Working_told : Stmt := (inClass (top 3) 1)
theorem sc_Working_told : FnScope ["self", "at", "word"] ["self", "at", "word"] (defScope s_Working_told) := ⟨rfl, rfl, rfl, by decide +kernel, rfl, by decide +kernel, by decide +kernel⟩
def sv_Working_told : Sv := (sSeq (sFPut 0 "Working" "words" (vVar 1) (vVar 2)) (sSeq (sFSd 0 "Working" "agenda" (v2 opIx (vVar 2) (vC (.int 1))) (vVar 1)) (sWip [1, 2] sNext)))
def den_Working_told : List D → Option Res := denMN 3 3 [0] sv_Working_told
/-- Working.led -/
abbrev s_Working_led : Stmt := (inClass (top 3) 2)
theorem sc_Working_led : FnScope ["self", "at", "sort", "many", "one"] ["self", "at"] (defScope s_Working_led) := ⟨rfl, rfl, rfl, by decide +kernel, rfl, by decide +kernel, by decide +kernel⟩
def b0_Working_led : Sv := (sSeq (sIf (bAnd (vTst (v2 opIs (v2 opIx (vFld "words" (vVar 0)) (vVar 4)) (vC .non))) (vTst (v2 opEq (vVar 2) (vC (.str "lost"))))) (sSeq (sF [] (fMeth 0 "Working" "told" [.sh, .sh] den_Working_told (aCons (vVar 4) (aCons (vTup (aCons (vC (.str "won")) (aCons (v2 opAdd (vVar 3) (vC (.int 1))) aNil))) aNil))) fun _ δ => some (.nx δ)) (sWip [4] sNext)) (sSeq (sIf (vTst (v2 opIs (v2 opIx (vFld "words" (vVar 0)) (vVar 4)) (vC .non))) (sSeq (sFPut 0 "Working" "waits" (vVar 4) (v2 opSub (v2 opIx (vFld "waits" (vVar 0)) (vVar 4)) (vC (.int 1)))) (sSeq (sIf (vTst (v2 opEq (v2 opIx (vFld "waits" (vVar 0)) (vVar 4)) (vC (.int 0)))) (sSeq (sF [] (fMeth 0 "Working" "told" [.sh, .sh] den_Working_told (aCons (vVar 4) (aCons (vTup (aCons (vC (.str "lost")) (aCons (v2 opAdd (vVar 3) (vC (.int 1))) aNil))) aNil))) fun _ δ => some (.nx δ)) (sWip [4] sNext)) (sWip [4] sNext)) sNext)) (sWip [4] sNext)) sNext)) sNext)
def sv_Working_led : Sv := (sSeq (sAsg (v2 opIx (vFld "words" (vVar 0)) (vVar 1)) (hTup 2 (hCons (hName 2) (hCons (hName 3) hNil)))) (sSeq (sFor (iAnyF (v2 opIx (vFld "ahead" (vVar 0)) (vVar 1))) (hName 4) b0_Working_led) (sWip [1, 2, 3] sNext)))
def den_Working_led : List D → Option Res := denMN 5 2 [0] sv_Working_led
/-- Working.done -/
abbrev s_Working_done : Stmt := (inClass (top 3) 3)
theorem sc_Working_done : FnScope ["self", "at", "word"] ["self"] (defScope s_Working_done) := ⟨rfl, rfl, rfl, by decide +kernel, rfl, by decide +kernel, by decide +kernel⟩
def b0_Working_done : Sv := (sSeq (sF [] (fMeth 0 "Working" "led" [.bo] den_Working_led (aCons (vVar 1) aNil)) fun _ δ => some (.nx δ)) (sWip [1] sNext))
def e1_Working_done : Ev := (vIf (vTst (v2 opIs (vVar 2) (vC .non))) (vTup (aCons (vC (.str "even")) (aCons (vC (.int 0)) aNil))) (vVar 2))
def w2_Working_done : Dl.Env → Option Bool := (fun δ => (dlAt "Working" "agenda" 0 δ).map fun r => !r.2.isEmpty)
def b3_Working_done : Sv := (sSeq (sForF (iPop 0 "Working" "agenda" (vC1 opMin (aCons (vKeysF "Working" "agenda" 0) aNil))) (hName 1) b0_Working_done) sNext)
def sv_Working_done : Sv := (sSeq (sWhile w2_Working_done b3_Working_done) (sRetI [0] (vLc (iAnyF (vFld "words" (vVar 0))) (hName 2) tsYes e1_Working_done [2])))
def den_Working_done : List D → Option Res := denMN 3 1 [0] sv_Working_done
/-- worked -/
abbrev s_worked : Stmt := (top 4)
theorem sc_worked : FnScope ["nexts", "known"] ["nexts", "known"] (defScope s_worked) := ⟨rfl, rfl, rfl, by decide +kernel, rfl, by decide +kernel, by decide +kernel⟩
def sv_worked : Sv := (sRet (vTmp "Working" "done" den_Working_done (vMk "Working" den_Working__init_ (aCons (vVar 0) (aCons (vVar 1) aNil)))))
def den_worked : List D → Option D := denOf 2 2 .ow sv_worked
/-- _law_cell_at -/
abbrev s_law_cell_at : Stmt := (top 6)
theorem sc_law_cell_at : FnScope ["_law_script", "_law_k"] ["_law_script", "_law_k"] (defScope s_law_cell_at) := ⟨rfl, rfl, rfl, by decide +kernel, rfl, by decide +kernel, by decide +kernel⟩
def sv_law_cell_at : Sv := (sSeq (sIf (vTst (v2 opLt (vVar 1) (vC1 opLen (aCons (vVar 0) aNil)))) (sRet (v2 opIx (vVar 0) (vVar 1))) sNext) (sRet (vC (.int 0))))
def den_law_cell_at : List D → Option D := denOf 2 2 .sh sv_law_cell_at
/-- _law_known -/
abbrev s_law_known : Stmt := (top 7)
theorem sc_law_known : FnScope ["_law_cell", "_law_sort"] ["_law_cell"] (defScope s_law_known) := ⟨rfl, rfl, rfl, by decide +kernel, rfl, by decide +kernel, by decide +kernel⟩
def sv_law_known : Sv := (sSeq (sIf (vTst (v2 opGt (v2 opMod (vVar 0) (vC (.int 5))) (vC (.int 0)))) (sRet (vC .non)) sNext) (sSeq (sSet 1 (v2 opIx (vLst (aCons (vC (.str "won")) (aCons (vC (.str "lost")) (aCons (vC (.str "lost")) (aCons (vC (.str "even")) aNil))))) (v2 opMod (v2 opDiv (vVar 0) (vC (.int 5))) (vC (.int 4))))) (sSeq (sIf (vTst (v2 opEq (vVar 1) (vC (.str "even")))) (sRet (vTup (aCons (vC (.str "even")) (aCons (vC (.int 0)) aNil)))) sNext) (sSeq (sIf (vTst (v2 opEq (v2 opMod (v2 opDiv (vVar 0) (vC (.int 20))) (vC (.int 4))) (vC (.int 1)))) (sRet (vTup (aCons (vVar 1) (aCons (v2 opMod (v2 opDiv (vVar 0) (vC (.int 80))) (v2 opAdd (v2 opPow (vC (.int 10)) (vC (.int 9))) (vC (.int 1)))) aNil)))) sNext) (sRet (vTup (aCons (vVar 1) (aCons (v2 opMod (v2 opDiv (vVar 0) (vC (.int 80))) (vC (.int 21))) aNil))))))))
def den_law_known : List D → Option D := denOf 2 1 .sh sv_law_known
/-- _law_nexts -/
abbrev s_law_nexts : Stmt := (top 8)
theorem sc_law_nexts : FnScope ["_law_cell", "_law_at", "_law_many", "_law_is_near", "_law_found", "_law_k", "_law_step"] ["_law_cell", "_law_at", "_law_many", "_law_is_near"] (defScope s_law_nexts) := ⟨rfl, rfl, rfl, by decide +kernel, rfl, by decide +kernel, by decide +kernel⟩
def b0_law_nexts : Sv := (sSeq (sSet 6 (v2 opMod (v2 opMulI (v2 opAdd (v2 opDiv (vVar 0) (v2 opAdd (vVar 5) (vC (.int 1)))) (v2 opMulI (vC (.int 7919)) (vVar 5))) (vC (.int 69621))) (vC (.int 998244353)))) (sSeq (sIf (vTst (vVar 3)) (sSeq (sApp 4 (v2 opMod (v2 opSub (v2 opAdd (vVar 1) (v2 opMod (vVar 6) (vC (.int 5)))) (vC (.int 1))) (vVar 2))) (sWip [5, 6] sNext)) (sSeq (sApp 4 (v2 opMod (vVar 6) (vVar 2))) (sWip [5, 6] sNext))) sNext))
def sv_law_nexts : Sv := (sSeq (sSet 4 (vLst aNil)) (sSeq (sFor (iRngF1 (aCons (v2 opAdd (vC (.int 1)) (v2 opMod (v2 opDiv (vVar 0) (vC (.int 1680))) (vC (.int 6)))) aNil)) (hName 5) b0_law_nexts) (sRet (vVar 4))))
def den_law_nexts : List D → Option D := denOf 7 4 .ow sv_law_nexts
/-- _law_net -/
abbrev s_law_net : Stmt := (top 9)
theorem sc_law_net : FnScope ["_law_script", "_law_many", "_law_way", "_law_nexts_here", "_law_known_here", "_law_at", "_law_cell", "_law_word", "_law_numbers"] ["_law_script"] (defScope s_law_net) := ⟨rfl, rfl, rfl, by decide +kernel, rfl, by decide +kernel, by decide +kernel⟩
def b0_law_net : Sv := (sSeq (sSet 6 (v2 opMod (v2 opMulI (v2 opAdd (vC1 den_law_cell_at (aCons (vVar 0) (aCons (v2 opAdd (vC (.int 2)) (v2 opMod (vVar 5) (vC (.int 61)))) aNil))) (v2 opMulI (vC (.int 7919)) (vVar 5))) (vC (.int 48271))) (vC (.int 2147483647)))) (sSeq (sSet 7 (vC1 den_law_known (aCons (vVar 6) aNil))) (sSeq (sSet 8 (vC1 den_law_nexts (aCons (vVar 6) (aCons (vVar 5) (aCons (vVar 1) (aCons (v2 opEq (v2 opMod (vVar 2) (vC (.int 2))) (vC (.int 1))) aNil)))))) (sSeq (sIf (vTst (v2 opEq (v2 opMod (v2 opDiv (vVar 2) (vC (.int 2))) (vC (.int 4))) (vC (.int 1)))) (sSeq (sSet 7 (vC .non)) (sSeq (sSet 8 (vLst (aCons (v2 opAdd (vVar 5) (vC (.int 1))) aNil))) (sSeq (sIf (vTst (v2 opEq (v2 opAdd (vVar 5) (vC (.int 1))) (vVar 1))) (sSeq (sSet 7 (v2 opIx (vLst (aCons (vTup (aCons (vC (.str "lost")) (aCons (v2 opMod (v2 opDiv (vVar 2) (vC (.int 8))) (vC (.int 9))) aNil))) (aCons (vTup (aCons (vC (.str "won")) (aCons (v2 opMod (v2 opDiv (vVar 2) (vC (.int 8))) (vC (.int 9))) aNil))) aNil))) (v2 opMod (v2 opDiv (vVar 2) (vC (.int 72))) (vC (.int 2))))) sNext) sNext) sNext))) sNext) (sSeq (sIf (bAnd (vTst (v2 opNot (vVar 7) (vC .non))) (bOr (vTst (v2 opEq (v2 opMod (vVar 6) (vC (.int 2))) (vC (.int 0)))) (vTst (v2 opEq (v2 opAdd (vVar 5) (vC (.int 1))) (vVar 1))))) (sSeq (sSet 8 (vLst aNil)) (sWip [5, 6] sNext)) (sWip [5, 6] sNext)) (sSeq (sApp 4 (vVar 7)) (sSeq (sApp 3 (vVar 8)) (sWip [7, 8] sNext))))))))
def sv_law_net : Sv := (sSeq (sSet 1 (v2 opAdd (vC (.int 1)) (v2 opMod (vC1 den_law_cell_at (aCons (vVar 0) (aCons (vC (.int 0)) aNil))) (vC (.int 60))))) (sSeq (sSet 2 (vC1 den_law_cell_at (aCons (vVar 0) (aCons (vC (.int 1)) aNil)))) (sSeq (sSet 3 (vLst aNil)) (sSeq (sSet 4 (vLst aNil)) (sSeq (sFor (iRngF1 (aCons (vVar 1) aNil)) (hName 5) b0_law_net) (sRet (vTup (aCons (vVar 3) (aCons (vVar 4) aNil)))))))))
def den_law_net : List D → Option D := denOf 9 1 .sh sv_law_net
/-- _law_follows -/
abbrev s_law_follows : Stmt := (top 10)
theorem sc_law_follows : FnScope ["_law_words", "_law_least", "_law_most", "_law_others", "_law_sort", "_law_many"] ["_law_words"] (defScope s_law_follows) := ⟨rfl, rfl, rfl, by decide +kernel, rfl, by decide +kernel, by decide +kernel⟩
def b0_law_follows : Sv := (sSeq (sIf (bAnd (vTst (v2 opEq (vVar 4) (vC (.str "lost")))) (bOr (vTst (v2 opIs (vVar 1) (vC .non))) (vTst (v2 opLt (vVar 5) (vVar 1))))) (sSeq (sSet 1 (vVar 5)) sNext) sNext) (sSeq (sIf (vTst (v2 opEq (vVar 4) (vC (.str "won")))) (sSeq (sSet 2 (vC1 opMax2 (aCons (vVar 2) (aCons (vVar 5) aNil)))) (sWip [4, 5] sNext)) (sSeq (sSet 3 (v2 opAdd (vVar 3) (vC (.int 1)))) (sWip [4, 5] sNext))) sNext))
def sv_law_follows : Sv := (sSeq (sSet 1 (vC .non)) (sSeq (sSet 2 (vC (.int 0))) (sSeq (sSet 3 (vC (.int 0))) (sSeq (sFor (iAnyF (vVar 0)) (hTup 2 (hCons (hName 4) (hCons (hName 5) hNil))) b0_law_follows) (sSeq (sIf (vTst (v2 opNot (vVar 1) (vC .non))) (sRet (vTup (aCons (vC (.str "won")) (aCons (v2 opAdd (vVar 1) (vC (.int 1))) aNil)))) sNext) (sSeq (sIf (vTst (v2 opEq (vVar 3) (vC (.int 0)))) (sRet (vTup (aCons (vC (.str "lost")) (aCons (v2 opAdd (vVar 2) (vC (.int 1))) aNil)))) sNext) (sRet (vTup (aCons (vC (.str "even")) (aCons (vC (.int 0)) aNil))))))))))
def den_law_follows : List D → Option D := denOf 6 1 .sh sv_law_follows
/-- _law_is_word -/
abbrev s_law_is_word : Stmt := (top 11)
theorem sc_law_is_word : FnScope ["_law_word"] ["_law_word"] (defScope s_law_is_word) := ⟨rfl, rfl, rfl, by decide +kernel, rfl, by decide +kernel, by decide +kernel⟩
def sv_law_is_word : Sv := (sSeq (sIf (bOr (bNot (vTst (vC1 opIsi (aCons (vVar 0) (aCons (vC (.ty "tuple")) aNil))))) (bOr (vTst (v2 opNe (vC1 opLen (aCons (vVar 0) aNil)) (vC (.int 2)))) (vTst (v2 opNin (v2 opIx (vVar 0) (vC (.int 0))) (vTup (aCons (vC (.str "won")) (aCons (vC (.str "lost")) (aCons (vC (.str "even")) aNil)))))))) (sRet (vC (.bl false))) sNext) (sRet (vAnd (vC1 opIsi (aCons (v2 opIx (vVar 0) (vC (.int 1))) (aCons (vC (.ty "int")) aNil))) (vNot (vC1 opIsi (aCons (v2 opIx (vVar 0) (vC (.int 1))) (aCons (vC (.ty "bool")) aNil)))))))
def den_law_is_word : List D → Option D := denOf 1 1 .sh sv_law_is_word
/-- law -/
abbrev s_law : Stmt := (top 12)
theorem sc_law : FnScope ["_law_script", "_law_nexts_here", "_law_known_here", "_law_handed", "_law_words", "_law_at", "_law_due", "_law_numbers", "_law_number"] ["_law_script"] (defScope s_law) := ⟨rfl, rfl, rfl, by decide +kernel, rfl, by decide +kernel, by decide +kernel⟩
def e0_law : Ev := (vC1 opList (aCons (vVar 7) aNil))
def e1_law : Ev := (v2 opIx (vVar 4) (vVar 8))
def b2_law : Sv := (sSeq (sIf (bNot (vTst (vC1 den_law_is_word (aCons (v2 opIx (vVar 4) (vVar 5)) aNil)))) (sRet (vC (.bl false))) sNext) (sSeq (sSet 6 (v2 opIx (vVar 2) (vVar 5))) (sSeq (sIf (vTst (v2 opIs (vVar 6) (vC .non))) (sSeq (sSet 6 (vC1 den_law_follows (aCons (vLc (iAnyF (v2 opIx (vVar 1) (vVar 5))) (hName 8) tsYes e1_law [8]) aNil))) sNext) sNext) (sSeq (sIf (vTst (v2 opNe (v2 opIx (vVar 4) (vVar 5)) (vVar 6))) (sRet (vC (.bl false))) sNext) (sWip [5, 6] sNext)))))
def sv_law : Sv := (sSeq (sAsg (vC1 den_law_net (aCons (vVar 0) aNil)) (hTup 2 (hCons (hName 1) (hCons (hName 2) hNil)))) (sSeq (sSet 3 (vTup (aCons (vLc (iAnyF (vVar 1)) (hName 7) tsYes e0_law [7]) (aCons (vC1 opList (aCons (vVar 2) aNil)) aNil)))) (sSeq (sSet 4 (vC1 den_worked (aCons (v2 opIx (vVar 3) (vC (.int 0))) (aCons (v2 opIx (vVar 3) (vC (.int 1))) aNil)))) (sSeq (sIf (bOr (vTst (v2 opNe (v2 opIx (vVar 3) (vC (.int 0))) (vVar 1))) (bOr (vTst (v2 opNe (v2 opIx (vVar 3) (vC (.int 1))) (vVar 2))) (bOr (bNot (vTst (vC1 opIsi (aCons (vVar 4) (aCons (vC (.ty "list")) aNil))))) (vTst (v2 opNe (vC1 opLen (aCons (vVar 4) aNil)) (vC1 opLen (aCons (vVar 2) aNil))))))) (sRet (vC (.bl false))) sNext) (sWip [0, 3] (sSeq (sFor (iRngF1 (aCons (vC1 opLen (aCons (vVar 2) aNil)) aNil)) (hName 5) b2_law) (sRet (vC (.bl true)))))))))
def den_law : List D → Option D := denOf 9 1 .sh sv_law
end
end Pr
set_option maxHeartbeats 4000000
namespace Pr
open PySem L2 Dl
def t_comers (nexts : (List (List Int))) (known : (List (Option (Str × Int)))) : Option (List (List Int)) := (lett (nexts.map fun _ => ([] : List Int)) fun found => ((foldT (fun v1 item => ((((atI known item.1).bind fun z4 => some z4.isNone).bind fun z11 => if z11 = true then ((foldT (fun v6 number => ((some number).bind fun z7 => (some item.1).bind fun z8 => (napT v6 z7 z8).bind fun found1 => (some found1))) item.2 v1).bind fun v9 => (some v9)) else (some v1)).bind fun v5 => (some v5))) (enumT nexts) found).bind fun v12 => (some v12)))
def t_begun (known : (List (Option (Str × Int)))) : Option (List (Int × List Int)) := (lett ([] : (List (Int × List Int))) fun found => ((foldT (fun v1 item => (((if item.2.isSome = true then ((opIx ((eO (eT2 D.str D.int)) item.2) (D.int (0 : Int))).bind fun z4 => (neB z4 (D.str ("even" : Str)))) else some false).bind fun z11 => if z11 = true then (((opIx ((eO (eT2 D.str D.int)) item.2) (D.int (1 : Int))).bind cI).bind fun z9 => (some item.1).bind fun z10 => (sdT z9 z10 v1).bind fun found1 => (some found1)) else (some v1)).bind fun v6 => (some v6))) (enumT known) found).bind fun v12 => (some v12)))
def t_Working__init_ (nexts : (List (List Int))) (known : (List (Option (Str × Int)))) : Option (Unit × TWorking) := ((some known).bind fun words => ((some (nexts.map fun numbers => (numbers.length : Int))).bind fun waits => ((t_comers nexts known).bind fun ahead => ((t_begun known).bind fun agenda => (some ((), ({ words := words, waits := waits, ahead := ahead, agenda := agenda } : TWorking)))))))
def t_Working_told (self : TWorking) (at_ : Int) (word : (Str × Int)) : Option (Unit × TWorking) := ((some (some word)).bind fun z3 => (some at_).bind fun z4 => (putLT self.words z4 z3).bind fun words => ((some word.2).bind fun z1 => (some at_).bind fun z2 => (sdT z1 z2 ({ self with words := words } : TWorking).agenda).bind fun agenda => (some ((), ({ ({ self with words := words } : TWorking) with agenda := agenda } : TWorking)))))
def t_Working_led (self : TWorking) (at_ : Int) : Option (Unit × TWorking) := (((atI self.words at_).bind fun z4 => z4).bind fun pair => (((atI self.ahead at_).bind fun z49 => foldT (fun v8 one => (((((atI v8.words one).bind fun z14 => some z14.isNone).bind fun z15 => if z15 = true then (eqB (D.str pair.1) (D.str ("lost" : Str))) else some false).bind fun z47 => if z47 = true then (bind2 ((((cI (D.int pair.2)).bind fun z17 => some (z17 + (1 : Int))).bind fun z19 => (some (("won" : Str), z19))).bind fun z20 => (t_Working_told v8 one z20)) (fun _ (k21 : TWorking) => (some k21))) else ((((atI v8.words one).bind fun z25 => some z25.isNone).bind fun z46 => if z46 = true then (((atI v8.waits one).bind fun z30 => some (z30 - (1 : Int))).bind fun z44 => (some one).bind fun z45 => (putLT v8.waits z45 z44).bind fun waits => ((((atI (({ v8 with waits := waits } : TWorking).waits) one).bind fun z35 => some (decide (z35 = (0 : Int)))).bind fun z43 => if z43 = true then (bind2 ((((cI (D.int pair.2)).bind fun z38 => some (z38 + (1 : Int))).bind fun z40 => (some (("lost" : Str), z40))).bind fun z41 => (t_Working_told ({ v8 with waits := waits } : TWorking) one z41)) (fun _ (k42 : TWorking) => (some k42))) else (some ({ v8 with waits := waits } : TWorking))).bind fun v37 => (some v37))) else (some v8)).bind fun v26 => (some v26))).bind fun v16 => (some v16))) z49 self).bind fun v48 => (some ((), v48))))
def t_Working_done (self : TWorking) : Option ((List (Str × Int)) × TWorking) := ((whN (fun (v1 : TWorking) => (some (!v1.agenda.isEmpty))) (fun v1 => (((minT (v1.agenda.map fun p => p.1)).bind fun z6 => (popNT z6 v1.agenda).bind fun z7 => foldT (fun v2 at_ => (bind2 ((cI (D.int at_)).bind fun z3 => (t_Working_led v2 z3)) (fun _ (k4 : TWorking) => (some k4)))) z7.1 ((fun (q : (List (Int × List Int))) => ({ v1 with agenda := q } : TWorking)) z7.2)).bind fun v5 => (some v5))) fuel self).bind fun v8 => ((lcT (fun word => (some true)) (fun word => (if word.isNone = true then (some (("even" : Str), (0 : Int))) else word)) v8.words).bind fun z11 => some (z11, v8)))
def t_worked (nexts : (List (List Int))) (known : (List (Option (Str × Int)))) : Option (List (Str × Int)) := (((t_Working__init_ nexts known).bind fun z1 => some z1.2).bind fun z2 => (t_Working_done z2).bind fun z3 => some z3.1)
def t_law_cell_at (script : (List Int)) (k : Int) : Option Int := (if (decide (k < (script.length : Int))) = true then (atI script k) else (some (0 : Int)))
def t_law_known (cell : Int) : Option (Option (Str × Int)) := (if (decide ((0 : Int) < (cell % 5))) = true then (some none) else ((atI [("won" : Str), ("lost" : Str), ("lost" : Str), ("even" : Str)] ((cell / 5) % 4)).bind fun sort => (if (decide (sort = ("even" : Str))) = true then (some (some (("even" : Str), (0 : Int)))) else (if (decide (((cell / 20) % 4) = (1 : Int))) = true then (((modT (cell / 80) (((10 : Int) ^ 9) + (1 : Int))).bind fun z5 => (some (sort, z5))).bind fun z6 => some (some z6)) else (some (some (sort, ((cell / 80) % 21))))))))
def t_law_nexts (cell : Int) (at_ : Int) (many : Int) (is_near : Bool) : Option (List Int) := (((rngT ((1 : Int) + ((cell / 1680) % 6))).bind fun z16 => foldT (fun v1 k => (((((divT cell (k + (1 : Int))).bind fun z4 => some (z4 + (7919 * k))).bind fun z6 => some (z6 * 69621)).bind fun z7 => some (z7 % 998244353)).bind fun step => ((if is_near = true then ((modT ((at_ + (step % 5)) - (1 : Int)) many).bind fun z11 => (appT v1 z11).bind fun found => (some found)) else ((modT step many).bind fun z14 => (appT v1 z14).bind fun found1 => (some found1))).bind fun v8 => (some v8)))) z16 []).bind fun v15 => (some v15))
def t_law_net (script : (List Int)) : Option ((List (List Int)) × (List (Option (Str × Int)))) := ((((t_law_cell_at script (0 : Int)).bind fun z1 => some (z1 % 60)).bind fun z2 => some ((1 : Int) + z2)).bind fun many => ((t_law_cell_at script (1 : Int)).bind fun way => (((rngT many).bind fun z16 => foldT (fun v4 at_ => (((((t_law_cell_at script ((2 : Int) + (at_ % 61))).bind fun z5 => some (z5 + (7919 * at_))).bind fun z7 => some (z7 * 48271)).bind fun z8 => some (z8 % 2147483647)).bind fun cell => ((t_law_known cell).bind fun word => ((t_law_nexts cell at_ many (decide ((way % 2) = (1 : Int)))).bind fun numbers => ((if (decide (((way / 2) % 4) = (1 : Int))) = true then (lett [(at_ + (1 : Int))] fun numbers1 => ((if (decide ((at_ + (1 : Int)) = many)) = true then (((atI [(("lost" : Str), ((way / 8) % 9)), (("won" : Str), ((way / 8) % 9))] ((way / 72) % 2)).bind fun z13 => some (some z13)).bind fun word1 => (some word1)) else (some none)).bind fun v10 => (some (v10, numbers1)))) else (some (word, numbers))).bind fun v9 => ((if (v9.1.isSome && ((decide ((cell % 2) = (0 : Int))) || (decide ((at_ + (1 : Int)) = many)))) = true then (some []) else (some v9.2)).bind fun v14 => ((appT v4.2 v9.1).bind fun known_here => ((appT v4.1 v14).bind fun nexts_here => (some (nexts_here, known_here)))))))))) z16 ([], [])).bind fun v15 => (some (v15.1, v15.2)))))
def t_law_follows (words : (List (Str × Int))) : Option (Str × D) := ((foldT (fun v1 item => (((if (decide (item.1 = ("lost" : Str))) = true then (if v1.1.isNone = true then some true else (v1.1.bind fun z2 => some (decide (item.2 < z2)))) else some false).bind fun z6 => if z6 = true then (lett (some item.2) fun least => (some least)) else (some v1.1)).bind fun v4 => ((if (decide (item.1 = ("won" : Str))) = true then (lett (max2 v1.2.1 item.2) fun most => (some (most, v1.2.2))) else (lett (v1.2.2 + (1 : Int)) fun others => (some (v1.2.1, others)))).bind fun v5 => (some (v4, v5.1, v5.2))))) words (none, (0 : Int), (0 : Int))).bind fun v7 => (if v7.1.isSome = true then (((v7.1.bind fun z8 => some (z8 + (1 : Int))).bind fun z10 => some (D.int z10)).bind fun z11 => (some (("won" : Str), z11))) else (if (decide (v7.2.2 = (0 : Int))) = true then (some (("lost" : Str), (D.int (v7.2.1 + (1 : Int))))) else (some (("even" : Str), (D.int (0 : Int)))))))
def t_law_is_word (word : (Str × Int)) : Option Bool := ((if (!true) = true then some true else (((lenD ((eT2 D.str D.int) word)).bind fun z3 => some (!decide (z3 = (2 : Int)))).bind fun z5 => if z5 = true then some true else (ninB (D.str word.1) ((eT3 D.str D.str D.str) (("won" : Str), ("lost" : Str), ("even" : Str)))))).bind fun z8 => if z8 = true then (some false) else (some (true && (!false))))
def t_law (script : (List Int)) : Option Bool := ((t_law_net script).bind fun pair => (lett ((pair.1.map fun numbers => numbers), pair.2) fun handed => ((t_worked handed.1 handed.2).bind fun words => (if ((!decide (handed.1 = pair.1)) || ((!decide (handed.2 = pair.2)) || ((!true) || (!decide ((words.length : Int) = (pair.2.length : Int)))))) = true then (some false) else (bindC ((rngT (pair.2.length : Int)).bind fun z26 => forT (fun v2 at_ => ((((atI words at_).bind fun z5 => (t_law_is_word z5)).bind fun z6 => some (!z6)).bind fun z24 => if z24 = true then (some (.rt false)) else (((atI pair.2 at_).bind fun z9 => some ((Option.map (fun (p : (Str × Int)) => ((fun x => x) p.1, D.int p.2))) z9)).bind fun due => ((if due.isNone = true then (((((atI pair.1 at_).bind fun z15 => (lcT (fun number => (some true)) (fun number => (atI words number)) z15)).bind fun z16 => (t_law_follows z16)).bind fun z17 => some (some z17)).bind fun due1 => (some due1)) else (some due)).bind fun v10 => ((((atI words at_).bind fun z20 => some ((eT2 D.str D.int) z20)).bind fun z21 => (neB z21 ((eO (eT2 D.str eD)) v10))).bind fun z23 => if z23 = true then (some (.rt false)) else (some (.nx ()))))))) z26 ()) (fun v25 => (some true)) (fun r => r))))))
end Pr
set_option maxHeartbeats 4000000
namespace Pr
open PySem L2 Dl
structure Prg (K : PySem.W.Frag) (mg : Str → Option Value) where
  d_comers : Dfn K mg "comers" "comers" s_comers ["nexts", "known"]
  d_begun : Dfn K mg "begun" "begun" s_begun ["known"]
  d_Working__init_ : DfnM K "__init__" "Working.__init__" s_Working__init_ ["self", "nexts", "known"]
  d_Working_told : DfnM K "told" "Working.told" s_Working_told ["self", "at", "word"]
  d_Working_led : DfnM K "led" "Working.led" s_Working_led ["self", "at"]
  d_Working_done : DfnM K "done" "Working.done" s_Working_done ["self"]
  d_worked : Dfn K mg "worked" "worked" s_worked ["nexts", "known"]
  d_law_cell_at : Dfn K mg "_law_cell_at" "_law_cell_at" s_law_cell_at ["_law_script", "_law_k"]
  d_law_known : Dfn K mg "_law_known" "_law_known" s_law_known ["_law_cell"]
  d_law_nexts : Dfn K mg "_law_nexts" "_law_nexts" s_law_nexts ["_law_cell", "_law_at", "_law_many", "_law_is_near"]
  d_law_net : Dfn K mg "_law_net" "_law_net" s_law_net ["_law_script"]
  d_law_follows : Dfn K mg "_law_follows" "_law_follows" s_law_follows ["_law_words"]
  d_law_is_word : Dfn K mg "_law_is_word" "_law_is_word" s_law_is_word ["_law_word"]
  d_law : Dfn K mg "law" "law" s_law ["_law_script"]
  z_enumerate : mg "enumerate" = none
  z_list : mg "list" = none
  z_len : mg "len" = none
  z_min : mg "min" = none
  z_range : mg "range" = none
  z_max : mg "max" = none
  z_tuple : mg "tuple" = none
  z_isinstance : mg "isinstance" = none
  z_bool : mg "bool" = none
  z_int : mg "int" = none
  C_Working : Addr
  g_Working : mg "Working" = some (.ref C_Working)
  cl_Working : Cls K C_Working
  mk_Working : Mk K C_Working d_Working__init_.f
  me_Working_told : Meth K C_Working "told" d_Working_told.f
  me_Working_led : Meth K C_Working "led" d_Working_led.f
  me_Working_done : Meth K C_Working "done" d_Working_done.f
  na_Working_words : NoAttr K C_Working "words"
  na_Working_waits : NoAttr K C_Working "waits"
  na_Working_ahead : NoAttr K C_Working "ahead"
  na_Working_agenda : NoAttr K C_Working "agenda"
def muP : Str → Str → Ow := fun c x => if c = "Working" ∧ x = "agenda" then .dl else if c = "Working" ∧ x = "waits" then .top else if c = "Working" ∧ x = "words" then .top else .sh
def gam {K : PySem.W.Frag} {mg : Str → Option Value} (T : Prg K mg) : CM := ⟨fun c => if c = "Working" then some T.C_Working else none, muP⟩
theorem gam_Working {K : PySem.W.Frag} {mg : Str → Option Value} (T : Prg K mg) : iM (gam T) "Working" = some T.C_Working := by
  unfold iM gam
  dsimp only
  rw [if_neg (by decide)]
  exact if_pos rfl
theorem ck_words {K : PySem.W.Frag} {mg : Str → Option Value} (T : Prg K mg) : ∀ c C, iM (gam T) c = some C → Cls K C ∧ NoAttr K C "words" := fun c C h => by
    unfold iM at h
    split at h
    · cases h
    rename_i nx
    unfold gam at h
    dsimp only at h
    split at h
    · cases h; exact ⟨T.cl_Working, T.na_Working_words⟩
    cases h
theorem cko_words {K : PySem.W.Frag} {mg : Str → Option Value} (T : Prg K mg) : ∀ c, ClsOkO K (gam T) c "words" := fun c => ⟨ck_words T c, (by
    show muP c "words" = .top ∨ muP c "words" = .sh
    unfold muP
    repeat' split
    all_goals first | exact .inl rfl | exact .inr rfl | (rename_i h; exact absurd h.2 (by decide)))⟩
theorem ck_waits {K : PySem.W.Frag} {mg : Str → Option Value} (T : Prg K mg) : ∀ c C, iM (gam T) c = some C → Cls K C ∧ NoAttr K C "waits" := fun c C h => by
    unfold iM at h
    split at h
    · cases h
    rename_i nx
    unfold gam at h
    dsimp only at h
    split at h
    · cases h; exact ⟨T.cl_Working, T.na_Working_waits⟩
    cases h
theorem cko_waits {K : PySem.W.Frag} {mg : Str → Option Value} (T : Prg K mg) : ∀ c, ClsOkO K (gam T) c "waits" := fun c => ⟨ck_waits T c, (by
    show muP c "waits" = .top ∨ muP c "waits" = .sh
    unfold muP
    repeat' split
    all_goals first | exact .inl rfl | exact .inr rfl | (rename_i h; exact absurd h.2 (by decide)))⟩
theorem ck_ahead {K : PySem.W.Frag} {mg : Str → Option Value} (T : Prg K mg) : ∀ c C, iM (gam T) c = some C → Cls K C ∧ NoAttr K C "ahead" := fun c C h => by
    unfold iM at h
    split at h
    · cases h
    rename_i nx
    unfold gam at h
    dsimp only at h
    split at h
    · cases h; exact ⟨T.cl_Working, T.na_Working_ahead⟩
    cases h
theorem cls_ahead {K : PySem.W.Frag} {mg : Str → Option Value} (T : Prg K mg) : ∀ c, ClsOk K (gam T) c "ahead" := fun c => ⟨ck_ahead T c, (by
    show muP c "ahead" = .sh
    unfold muP
    rw [if_neg (fun z => absurd z.2 (by decide))]
    rw [if_neg (fun z => absurd z.2 (by decide))]
    rw [if_neg (fun z => absurd z.2 (by decide))]
    all_goals rfl)⟩
theorem ck_agenda {K : PySem.W.Frag} {mg : Str → Option Value} (T : Prg K mg) : ∀ c C, iM (gam T) c = some C → Cls K C ∧ NoAttr K C "agenda" := fun c C h => by
    unfold iM at h
    split at h
    · cases h
    rename_i nx
    unfold gam at h
    dsimp only at h
    split at h
    · cases h; exact ⟨T.cl_Working, T.na_Working_agenda⟩
    cases h
section
variable {P : Program} {w : World} {K : PySem.W.Frag} {mg : Str → Option Value} {base : Heap}
theorem ok_comers (T : Prg K mg) : FnOk P w K mg base CX0 1 T.d_comers.f T.d_comers.fd ["nexts", "known"] (spD K (gam T) [.sh, .bo] .sh den_comers) := by
  refine fn_ok (N := ["nexts", "known", "found", "at", "numbers", "number"]) (s := sv_comers) (M0 := [.sh, .bo, .sh, .sh, .sh, .sh]) (M' := [.sh, .bo, .sh, .sh, .sh, .sh]) T.d_comers.fn sc_comers rfl rfl rfl rfl rfl (fun cdv A outer s0 H E hr => ?_)
  exact ⟨_, _, (dss_cons (ds_setLcN (i := 2) (Mz := [.sh, .bo, .ow, .sh, .sh, .sh]) (own := [("numbers", 4)]) rfl sc_comers.nd (blkOk_by (N := ["nexts", "known", "found", "at", "numbers", "number"]) (sc := defScope s_comers) (by decide +kernel)) (dic_anyK K (de_var (i := 0) (m := .sh))) (fun _ _ _ _ _ => (dg_name (i := 4) (M1 := [.sh, .bo, .sh, .sh, .sh, .sh]) sc_comers.nd))) (dss_cons (ds_for PassesOwn.never rfl (di_enumerate K T.z_enumerate (da_cons (m' := .sh) (de_var (i := 0) (m := .sh)) da_nil)) (dg_tupK K rfl (dgs_cons (dg_name (i := 3) (M1 := [.sh, .bo, .ow, .sh, .sh, .sh]) sc_comers.nd) (dgs_cons (dg_name (i := 4) (M1 := [.sh, .bo, .ow, .sh, .sh, .sh]) sc_comers.nd) dgs_nil))) (dss_cons (ds_if (M1 := [.sh, .bo, .ow, .sh, .sh, .sh]) (dt_cmp od_is (de_ixK K (by exact hr.units) (de_var (i := 1) (m := .bo)) (de_var (i := 3) (m := .sh))) de_non) (dss_cons (ds_for PassesOwn.never rfl (di_anyK K (de_var (i := 4) (m := .sh))) (dg_name (i := 5) (M1 := [.sh, .bo, .ow, .sh, .sh, .sh]) sc_comers.nd) (dss_cons (ds_nApp K (i := 2) rfl (by exact hr.units) (de_var (i := 5) (m := .sh)) (de_var (i := 3) (m := .sh))) (dss_wipe [5] dss_nil))) (dss_wipe [3, 4] dss_nil)) (dss_wipe [3, 4] dss_nil)) dss_nil)) (dss_one (ds_retPl (i := 2)))))⟩
theorem ok_begun (T : Prg K mg) : FnOk P w K mg base CX0 1 T.d_begun.f T.d_begun.fd ["known"] (spD K (gam T) [.sh] .ow den_begun) := by
  refine fn_ok (N := ["known", "found", "at", "word"]) (s := sv_begun) (M0 := [.sh, .sh, .sh, .sh]) (M' := [.sh, .sh, .sh, .sh]) T.d_begun.fn sc_begun rfl rfl rfl rfl rfl (fun cdv A outer s0 H E hr => ?_)
  exact ⟨_, _, (dss_cons (ds_set (i := 1) (M1 := [.sh, .ow, .sh, .sh]) sc_begun.nd de_nst0) (dss_cons (ds_for PassesOwn.never rfl (di_enumerate K T.z_enumerate (da_cons (m' := .sh) (de_var (i := 0) (m := .sh)) da_nil)) (dg_tupK K rfl (dgs_cons (dg_name (i := 2) (M1 := [.sh, .ow, .sh, .sh]) sc_begun.nd) (dgs_cons (dg_name (i := 3) (M1 := [.sh, .ow, .sh, .sh]) sc_begun.nd) dgs_nil))) (dss_cons (ds_if (M1 := [.sh, .ow, .sh, .sh]) (DW.dt (dw_and (dt_cmp od_isnot (de_var (i := 3) (m := .sh)) de_non) (dw_and1 (dt_cmp (od_neK K (by exact hr.units)) (de_ixK K (by exact hr.units) (de_var (i := 3) (m := .sh)) de_int) de_str)))) (dss_cons (ds_sdApp K (i := 1) rfl (de_ixK K (by exact hr.units) (de_var (i := 3) (m := .sh)) de_int) (de_var (i := 2) (m := .sh))) (dss_wipe [2, 3] dss_nil)) (dss_wipe [2, 3] dss_nil)) dss_nil)) (dss_one (ds_retO (i := 1)))))⟩
theorem ok_Working__init_ (T : Prg K mg) : FnOk P w K mg base CX0 2 T.d_Working__init_.f T.d_Working__init_.fd ["self", "nexts", "known"] (spM K (gam T) [.ow, .sh, .sh] den_Working__init_) := by
  refine fn_okM (rm := .sh) (N := ["self", "nexts", "known", "numbers"]) (s := sv_Working__init_) (M0 := [.ow, .sh, .sh, .sh]) (M' := [.ow, .sh, .sh, .sh]) T.d_Working__init_.fn sc_Working__init_ rfl rfl rfl (by decide) rfl rfl rfl (fun cdv A outer s0 H E hr => ?_)
  exact ⟨_, _, (dss_cons (ds_fldN K (i := 0) (c := "Working") (k := .top) rfl ⟨ck_words T "Working", rfl⟩ (de_callTy (cd_listK K (m := .ow) rfl) rfl T.z_list (by decide +kernel) (da_cons (m' := .bo) (de_var (i := 2) (m := .sh)) da_nil))) (dss_cons (ds_fldN K (i := 0) (c := "Working") (k := .top) rfl ⟨ck_waits T "Working", rfl⟩ (de_lc (own := [("numbers", 3)]) rfl sc_Working__init_.nd (blkOk_by (N := ["self", "nexts", "known", "numbers"]) (sc := defScope s_Working__init_) (by decide +kernel)) (dic_anyK K (de_var (i := 1) (m := .sh))) (fun _ _ _ _ _ => (dg_name (i := 3) (M1 := [.ow, .sh, .sh, .sh]) sc_Working__init_.nd)) (fun _ _ _ _ _ => dts_nil) (fun _ _ _ _ _ => (de_callB (cd_lenK K) rfl T.z_len (by decide +kernel) (da_cons (m' := .bo) (de_var (i := 3) (m := .sh)) da_nil))))) (dss_cons (ds_fldN K (i := 0) (c := "Working") (k := .sh) rfl ⟨ck_ahead T "Working", rfl⟩ (de_callDK K T.d_comers (ok_comers T) (hr.mono (by decide)) (da_cons (m' := .sh) (de_var (i := 1) (m := .sh)) (da_cons (m' := .bo) (de_var (i := 2) (m := .sh)) da_nil)))) (dss_cons (ds_fldN K (i := 0) (c := "Working") (k := .dl) rfl ⟨ck_agenda T "Working", rfl⟩ (de_callDK K T.d_begun (ok_begun T) (hr.mono (by decide)) (da_cons (m' := .sh) (de_var (i := 2) (m := .sh)) da_nil))) (dss_wipe [1, 2] dss_nil))))), rfl⟩
theorem ok_Working_told (T : Prg K mg) : FnOk P w K mg base CX0 1 T.d_Working_told.f T.d_Working_told.fd ["self", "at", "word"] (spM K (gam T) [.ow, .sh, .sh] den_Working_told) := by
  refine fn_okM (rm := .sh) (N := ["self", "at", "word"]) (s := sv_Working_told) (M0 := [.ow, .sh, .sh]) (M' := [.ow, .sh, .sh]) T.d_Working_told.fn sc_Working_told rfl rfl rfl (by decide) rfl rfl rfl (fun cdv A outer s0 H E hr => ?_)
  exact ⟨_, _, (dss_cons (ds_fPut K (i := 0) (c := "Working") rfl ⟨ck_words T "Working", rfl⟩ (by exact hr.units) (de_var (i := 1) (m := .sh)) (de_var (i := 2) (m := .sh))) (dss_cons (ds_fSd K (i := 0) (c := "Working") rfl ⟨ck_agenda T "Working", rfl⟩ (de_ixK K (by exact hr.units) (de_var (i := 2) (m := .sh)) de_int) (de_var (i := 1) (m := .sh))) (dss_wipe [1, 2] dss_nil))), rfl⟩
theorem ok_Working_led (T : Prg K mg) : FnOk P w K mg base CX0 2 T.d_Working_led.f T.d_Working_led.fd ["self", "at"] (spM K (gam T) [.ow, .bo] den_Working_led) := by
  refine fn_okM (rm := .sh) (N := ["self", "at", "sort", "many", "one"]) (s := sv_Working_led) (M0 := [.ow, .bo, .sh, .sh, .sh]) (M' := [.ow, .bo, .sh, .sh, .sh]) T.d_Working_led.fn sc_Working_led rfl rfl rfl (by decide) rfl rfl rfl (fun cdv A outer s0 H E hr => ?_)
  exact ⟨_, _, (dss_cons (ds_asg (de_ixK K (by exact hr.units) (de_fldKO K (cko_words T) (de_var (i := 0) (m := .ow))) (de_var (i := 1) (m := .bo))) (dg_tupK K rfl (dgs_cons (dg_name (i := 2) (M1 := [.ow, .bo, .sh, .sh, .sh]) sc_Working_led.nd) (dgs_cons (dg_name (i := 3) (M1 := [.ow, .bo, .sh, .sh, .sh]) sc_Working_led.nd) dgs_nil)))) (dss_cons (ds_for PassesOwn.never rfl (di_anyK K (de_ixK K (by exact hr.units) (de_fldK K (cls_ahead T) (de_var (i := 0) (m := .ow))) (de_var (i := 1) (m := .bo)))) (dg_name (i := 4) (M1 := [.ow, .bo, .sh, .sh, .sh]) sc_Working_led.nd) (dss_cons (ds_if (M1 := [.ow, .bo, .sh, .sh, .sh]) (DW.dt (dw_and (dt_cmp od_is (de_ixK K (by exact hr.units) (de_fldKO K (cko_words T) (de_var (i := 0) (m := .ow))) (de_var (i := 4) (m := .sh))) de_non) (dw_and1 (dt_cmp (od_eqK K (by exact hr.units)) (de_var (i := 2) (m := .sh)) de_str)))) (dss_cons (ds_exprF (df_meth K (i := 0) T.cl_Working T.me_Working_told (gam_Working T) (ok_Working_told T) (hr.mono (by decide)) T.d_Working_told.bd (dm_val (k := .sh) (de_var (i := 4) (m := .sh)) (dm_val (k := .sh) (de_tup (da_cons (m' := .sh) de_str (da_cons (m' := .sh) (de_op (od_addK K) (de_var (i := 3) (m := .sh)) de_int) da_nil))) dm_nil)))) (dss_wipe [4] dss_nil)) (dss_cons (ds_if (M1 := [.ow, .bo, .sh, .sh, .sh]) (dt_cmp od_is (de_ixK K (by exact hr.units) (de_fldKO K (cko_words T) (de_var (i := 0) (m := .ow))) (de_var (i := 4) (m := .sh))) de_non) (dss_cons (ds_fPut K (i := 0) (c := "Working") rfl ⟨ck_waits T "Working", rfl⟩ (by exact hr.units) (de_var (i := 4) (m := .sh)) (de_op od_sub (de_ixK K (by exact hr.units) (de_fldKO K (cko_waits T) (de_var (i := 0) (m := .ow))) (de_var (i := 4) (m := .sh))) de_int)) (dss_cons (ds_if (M1 := [.ow, .bo, .sh, .sh, .sh]) (dt_cmp (od_eqK K (by exact hr.units)) (de_ixK K (by exact hr.units) (de_fldKO K (cko_waits T) (de_var (i := 0) (m := .ow))) (de_var (i := 4) (m := .sh))) de_int) (dss_cons (ds_exprF (df_meth K (i := 0) T.cl_Working T.me_Working_told (gam_Working T) (ok_Working_told T) (hr.mono (by decide)) T.d_Working_told.bd (dm_val (k := .sh) (de_var (i := 4) (m := .sh)) (dm_val (k := .sh) (de_tup (da_cons (m' := .sh) de_str (da_cons (m' := .sh) (de_op (od_addK K) (de_var (i := 3) (m := .sh)) de_int) da_nil))) dm_nil)))) (dss_wipe [4] dss_nil)) (dss_wipe [4] dss_nil)) dss_nil)) (dss_wipe [4] dss_nil)) dss_nil)) dss_nil)) (dss_wipe [1, 2, 3] dss_nil))), rfl⟩
theorem ok_Working_done (T : Prg K mg) : FnOk P w K mg base CX0 3 T.d_Working_done.f T.d_Working_done.fd ["self"] (spMR K (gam T) [.ow] .ow den_Working_done) := by
  refine fn_okM (rm := .ow) (N := ["self", "at", "word"]) (s := sv_Working_done) (M0 := [.ow, .sh, .sh]) (M' := [.ow, .sh, .sh]) T.d_Working_done.fn sc_Working_done rfl rfl rfl (by decide) rfl rfl rfl (fun cdv A outer s0 H E hr => ?_) (.inr (nnSeq nnRetI))
  exact ⟨_, _, (dss_cons (ds_while PassesOwn.never (dt_fNe0 K (i := 0) (c := "Working") rfl ⟨ck_agenda T "Working", rfl⟩ (by exact hr.units)) (dss_cons (ds_forPop K (i := 0) (c := "Working") PassesOwn.never rfl rfl ⟨ck_agenda T "Working", rfl⟩ (de_callB (cd_minK K rfl) rfl T.z_min (by decide +kernel) (da_cons (m' := .bo) (de_fKeys K (i := 0) (c := "Working") rfl ⟨ck_agenda T "Working", rfl⟩ T.z_list) da_nil)) (dg_name (i := 1) (M1 := [.ow, .sh, .sh]) sc_Working_done.nd) (dss_cons (ds_exprF (df_meth K (i := 0) T.cl_Working T.me_Working_led (gam_Working T) (ok_Working_led T) (hr.mono (by decide)) T.d_Working_led.bd (dm_val (k := .bo) (de_var (i := 1) (m := .sh)) dm_nil))) (dss_wipe [1] dss_nil))) dss_nil)) (dss_one (ds_retIO (de_lc (own := [("word", 2)]) rfl sc_Working_done.nd (blkOk_by (N := ["self", "at", "word"]) (sc := defScope s_Working_done) (by decide +kernel)) (dic_anyK K (de_fldKO K (cko_words T) (de_var (i := 0) (m := .ow)))) (fun _ _ _ _ _ => (dg_name (i := 2) (M1 := [.ow, .sh, .sh]) sc_Working_done.nd)) (fun _ _ _ _ _ => dts_nil) (fun _ _ _ _ _ => (de_ifExp (dt_cmp od_is (de_var (i := 2) (m := .sh)) de_non) (de_tup (da_cons (m' := .sh) de_str (da_cons (m' := .sh) de_int da_nil))) (de_var (i := 2) (m := .sh)))))))), rfl⟩
theorem ok_worked (T : Prg K mg) : FnOk P w K mg base CX0 4 T.d_worked.f T.d_worked.fd ["nexts", "known"] (spD K (gam T) [.sh, .sh] .ow den_worked) := by
  refine fn_ok (N := ["nexts", "known"]) (s := sv_worked) (M0 := [.sh, .sh]) (M' := [.sh, .sh]) T.d_worked.fn sc_worked rfl rfl rfl rfl rfl (fun cdv A outer s0 H E hr => ?_)
  exact ⟨_, _, (dss_one (ds_ret (de_tmp K T.cl_Working T.me_Working_done (gam_Working T) (ok_Working_done T) (hr.mono (by decide)) T.d_Working_done.bd (de_makeO K T.mk_Working (gam_Working T) (ok_Working__init_ T) (hr.mono (by decide)) T.g_Working T.d_Working__init_.bd (da_cons (m' := .sh) (de_var (i := 0) (m := .sh)) (da_cons (m' := .sh) (de_var (i := 1) (m := .sh)) da_nil))))))⟩
theorem ok_law_cell_at (T : Prg K mg) : FnOk P w K mg base CX0 1 T.d_law_cell_at.f T.d_law_cell_at.fd ["_law_script", "_law_k"] (spD K (gam T) [.bo, .bo] .sh den_law_cell_at) := by
  refine fn_ok (N := ["_law_script", "_law_k"]) (s := sv_law_cell_at) (M0 := [.bo, .bo]) (M' := [.bo, .bo]) T.d_law_cell_at.fn sc_law_cell_at rfl rfl rfl rfl rfl (fun cdv A outer s0 H E hr => ?_)
  exact ⟨_, _, (dss_cons (ds_if (M1 := [.bo, .bo]) (dt_cmp od_lt (de_var (i := 1) (m := .bo)) (de_callB (cd_lenK K) rfl T.z_len (by decide +kernel) (da_cons (m' := .bo) (de_var (i := 0) (m := .bo)) da_nil))) (dss_one (ds_ret (de_ixK K (by exact hr.units) (de_var (i := 0) (m := .bo)) (de_var (i := 1) (m := .bo))))) dss_nil) (dss_one (ds_ret de_int)))⟩
theorem ok_law_known (T : Prg K mg) : FnOk P w K mg base CX0 1 T.d_law_known.f T.d_law_known.fd ["_law_cell"] (spD K (gam T) [.bo] .sh den_law_known) := by
  refine fn_ok (N := ["_law_cell", "_law_sort"]) (s := sv_law_known) (M0 := [.bo, .sh]) (M' := [.bo, .sh]) T.d_law_known.fn sc_law_known rfl rfl rfl rfl rfl (fun cdv A outer s0 H E hr => ?_)
  exact ⟨_, _, (dss_cons (ds_if (M1 := [.bo, .sh]) (dt_cmp od_gt (de_op od_mod (de_var (i := 0) (m := .bo)) de_int) de_int) (dss_one (ds_ret de_non)) dss_nil) (dss_cons (ds_set (i := 1) (M1 := [.bo, .sh]) sc_law_known.nd (de_ixK K (by exact hr.units) (de_lst (da_cons (m' := .sh) de_str (da_cons (m' := .sh) de_str (da_cons (m' := .sh) de_str (da_cons (m' := .sh) de_str da_nil))))) (de_op od_mod (de_op od_div (de_var (i := 0) (m := .bo)) de_int) de_int))) (dss_cons (ds_if (M1 := [.bo, .sh]) (dt_cmp (od_eqK K (by exact hr.units)) (de_var (i := 1) (m := .sh)) de_str) (dss_one (ds_ret (de_tup (da_cons (m' := .sh) de_str (da_cons (m' := .sh) de_int da_nil))))) dss_nil) (dss_cons (ds_if (M1 := [.bo, .sh]) (dt_cmp (od_eqK K (by exact hr.units)) (de_op od_mod (de_op od_div (de_var (i := 0) (m := .bo)) de_int) de_int) de_int) (dss_one (ds_ret (de_tup (da_cons (m' := .sh) (de_var (i := 1) (m := .sh)) (da_cons (m' := .sh) (de_op od_mod (de_op od_div (de_var (i := 0) (m := .bo)) de_int) (de_op (od_addK K) (de_op od_pow de_int de_int) de_int)) da_nil))))) dss_nil) (dss_one (ds_ret (de_tup (da_cons (m' := .sh) (de_var (i := 1) (m := .sh)) (da_cons (m' := .sh) (de_op od_mod (de_op od_div (de_var (i := 0) (m := .bo)) de_int) de_int) da_nil)))))))))⟩
theorem ok_law_nexts (T : Prg K mg) : FnOk P w K mg base CX0 1 T.d_law_nexts.f T.d_law_nexts.fd ["_law_cell", "_law_at", "_law_many", "_law_is_near"] (spD K (gam T) [.bo, .bo, .bo, .bo] .ow den_law_nexts) := by
  refine fn_ok (N := ["_law_cell", "_law_at", "_law_many", "_law_is_near", "_law_found", "_law_k", "_law_step"]) (s := sv_law_nexts) (M0 := [.bo, .bo, .bo, .bo, .sh, .sh, .sh]) (M' := [.bo, .bo, .bo, .bo, .sh, .sh, .sh]) T.d_law_nexts.fn sc_law_nexts rfl rfl rfl rfl rfl (fun cdv A outer s0 H E hr => ?_)
  exact ⟨_, _, (dss_cons (ds_set (i := 4) (M1 := [.bo, .bo, .bo, .bo, .ow, .sh, .sh]) sc_law_nexts.nd (de_lst da_nil)) (dss_cons (ds_for PassesOwn.never rfl (di_rng1 T.z_range (da_cons (m' := .sh) (de_op (od_addK K) de_int (de_op od_mod (de_op od_div (de_var (i := 0) (m := .bo)) de_int) de_int)) da_nil)) (dg_name (i := 5) (M1 := [.bo, .bo, .bo, .bo, .ow, .sh, .sh]) sc_law_nexts.nd) (dss_cons (ds_set (i := 6) (M1 := [.bo, .bo, .bo, .bo, .ow, .sh, .sh]) sc_law_nexts.nd (de_op od_mod (de_op od_mulI (de_op (od_addK K) (de_op od_div (de_var (i := 0) (m := .bo)) (de_op (od_addK K) (de_var (i := 5) (m := .sh)) de_int)) (de_op od_mulI de_int (de_var (i := 5) (m := .sh)))) de_int) de_int)) (dss_cons (ds_if (M1 := [.bo, .bo, .bo, .bo, .ow, .sh, .sh]) (dt_val (de_var (i := 3) (m := .bo))) (dss_cons (ds_append (i := 4) rfl (de_op od_mod (de_op od_sub (de_op (od_addK K) (de_var (i := 1) (m := .bo)) (de_op od_mod (de_var (i := 6) (m := .sh)) de_int)) de_int) (de_var (i := 2) (m := .bo)))) (dss_wipe [5, 6] dss_nil)) (dss_cons (ds_append (i := 4) rfl (de_op od_mod (de_var (i := 6) (m := .sh)) (de_var (i := 2) (m := .bo)))) (dss_wipe [5, 6] dss_nil))) dss_nil))) (dss_one (ds_retO (i := 4)))))⟩
theorem ok_law_net (T : Prg K mg) : FnOk P w K mg base CX0 2 T.d_law_net.f T.d_law_net.fd ["_law_script"] (spD K (gam T) [.bo] .sh den_law_net) := by
  refine fn_ok (N := ["_law_script", "_law_many", "_law_way", "_law_nexts_here", "_law_known_here", "_law_at", "_law_cell", "_law_word", "_law_numbers"]) (s := sv_law_net) (M0 := [.bo, .sh, .sh, .sh, .sh, .sh, .sh, .sh, .sh]) (M' := [.bo, .sh, .sh, .sh, .sh, .sh, .sh, .sh, .sh]) T.d_law_net.fn sc_law_net rfl rfl rfl rfl rfl (fun cdv A outer s0 H E hr => ?_)
  exact ⟨_, _, (dss_cons (ds_set (i := 1) (M1 := [.bo, .sh, .sh, .sh, .sh, .sh, .sh, .sh, .sh]) sc_law_net.nd (de_op (od_addK K) de_int (de_op od_mod (de_callDK K T.d_law_cell_at (ok_law_cell_at T) (hr.mono (by decide)) (da_cons (m' := .bo) (de_var (i := 0) (m := .bo)) (da_cons (m' := .bo) de_int da_nil))) de_int))) (dss_cons (ds_set (i := 2) (M1 := [.bo, .sh, .sh, .sh, .sh, .sh, .sh, .sh, .sh]) sc_law_net.nd (de_callDK K T.d_law_cell_at (ok_law_cell_at T) (hr.mono (by decide)) (da_cons (m' := .bo) (de_var (i := 0) (m := .bo)) (da_cons (m' := .bo) de_int da_nil)))) (dss_cons (ds_set (i := 3) (M1 := [.bo, .sh, .sh, .ow, .sh, .sh, .sh, .sh, .sh]) sc_law_net.nd (de_lst da_nil)) (dss_cons (ds_set (i := 4) (M1 := [.bo, .sh, .sh, .ow, .ow, .sh, .sh, .sh, .sh]) sc_law_net.nd (de_lst da_nil)) (dss_cons (ds_for PassesOwn.never rfl (di_rng1 T.z_range (da_cons (m' := .sh) (de_var (i := 1) (m := .sh)) da_nil)) (dg_name (i := 5) (M1 := [.bo, .sh, .sh, .ow, .ow, .sh, .sh, .sh, .sh]) sc_law_net.nd) (dss_cons (ds_set (i := 6) (M1 := [.bo, .sh, .sh, .ow, .ow, .sh, .sh, .sh, .sh]) sc_law_net.nd (de_op od_mod (de_op od_mulI (de_op (od_addK K) (de_callDK K T.d_law_cell_at (ok_law_cell_at T) (hr.mono (by decide)) (da_cons (m' := .bo) (de_var (i := 0) (m := .bo)) (da_cons (m' := .bo) (de_op (od_addK K) de_int (de_op od_mod (de_var (i := 5) (m := .sh)) de_int)) da_nil))) (de_op od_mulI de_int (de_var (i := 5) (m := .sh)))) de_int) de_int)) (dss_cons (ds_set (i := 7) (M1 := [.bo, .sh, .sh, .ow, .ow, .sh, .sh, .sh, .sh]) sc_law_net.nd (de_callDK K T.d_law_known (ok_law_known T) (hr.mono (by decide)) (da_cons (m' := .bo) (de_var (i := 6) (m := .sh)) da_nil))) (dss_cons (ds_set (i := 8) (M1 := [.bo, .sh, .sh, .ow, .ow, .sh, .sh, .sh, .sh]) sc_law_net.nd (DE.sh (de_callDK K T.d_law_nexts (ok_law_nexts T) (hr.mono (by decide)) (da_cons (m' := .bo) (de_var (i := 6) (m := .sh)) (da_cons (m' := .bo) (de_var (i := 5) (m := .sh)) (da_cons (m' := .bo) (de_var (i := 1) (m := .sh)) (da_cons (m' := .bo) (de_cmp (od_eqK K (by exact hr.units)) (de_op od_mod (de_var (i := 2) (m := .sh)) de_int) de_int) da_nil))))))) (dss_cons (ds_if (M1 := [.bo, .sh, .sh, .ow, .ow, .sh, .sh, .sh, .sh]) (dt_cmp (od_eqK K (by exact hr.units)) (de_op od_mod (de_op od_div (de_var (i := 2) (m := .sh)) de_int) de_int) de_int) (dss_cons (ds_set (i := 7) (M1 := [.bo, .sh, .sh, .ow, .ow, .sh, .sh, .sh, .sh]) sc_law_net.nd de_non) (dss_cons (ds_set (i := 8) (M1 := [.bo, .sh, .sh, .ow, .ow, .sh, .sh, .sh, .sh]) sc_law_net.nd (DE.sh (de_lst (da_cons (m' := .sh) (de_op (od_addK K) (de_var (i := 5) (m := .sh)) de_int) da_nil)))) (dss_cons (ds_if (M1 := [.bo, .sh, .sh, .ow, .ow, .sh, .sh, .sh, .sh]) (dt_cmp (od_eqK K (by exact hr.units)) (de_op (od_addK K) (de_var (i := 5) (m := .sh)) de_int) (de_var (i := 1) (m := .sh))) (dss_cons (ds_set (i := 7) (M1 := [.bo, .sh, .sh, .ow, .ow, .sh, .sh, .sh, .sh]) sc_law_net.nd (de_ixK K (by exact hr.units) (de_lst (da_cons (m' := .sh) (de_tup (da_cons (m' := .sh) de_str (da_cons (m' := .sh) (de_op od_mod (de_op od_div (de_var (i := 2) (m := .sh)) de_int) de_int) da_nil))) (da_cons (m' := .sh) (de_tup (da_cons (m' := .sh) de_str (da_cons (m' := .sh) (de_op od_mod (de_op od_div (de_var (i := 2) (m := .sh)) de_int) de_int) da_nil))) da_nil))) (de_op od_mod (de_op od_div (de_var (i := 2) (m := .sh)) de_int) de_int))) dss_nil) dss_nil) dss_nil))) dss_nil) (dss_cons (ds_if (M1 := [.bo, .sh, .sh, .ow, .ow, .sh, .sh, .sh, .sh]) (DW.dt (dw_and (dt_cmp od_isnot (de_var (i := 7) (m := .sh)) de_non) (dw_and1 (DW.dt (dw_or (dt_cmp (od_eqK K (by exact hr.units)) (de_op od_mod (de_var (i := 6) (m := .sh)) de_int) de_int) (dw_or1 (dt_cmp (od_eqK K (by exact hr.units)) (de_op (od_addK K) (de_var (i := 5) (m := .sh)) de_int) (de_var (i := 1) (m := .sh))))))))) (dss_cons (ds_set (i := 8) (M1 := [.bo, .sh, .sh, .ow, .ow, .sh, .sh, .sh, .sh]) sc_law_net.nd (DE.sh (de_lst da_nil))) (dss_wipe [5, 6] dss_nil)) (dss_wipe [5, 6] dss_nil)) (dss_cons (ds_append (i := 4) rfl (de_var (i := 7) (m := .sh))) (dss_cons (ds_append (i := 3) rfl (de_var (i := 8) (m := .sh))) (dss_wipe [7, 8] dss_nil))))))))) (dss_freeze (M1 := [.bo, .sh, .sh, .sh, .ow, .sh, .sh, .sh, .sh]) 3 (dss_freeze (M1 := [.bo, .sh, .sh, .sh, .sh, .sh, .sh, .sh, .sh]) 4 (dss_one (ds_ret (de_tup (da_cons (m' := .sh) (de_var (i := 3) (m := .sh)) (da_cons (m' := .sh) (de_var (i := 4) (m := .sh)) da_nil))))))))))))⟩
theorem ok_law_follows (T : Prg K mg) : FnOk P w K mg base CX0 1 T.d_law_follows.f T.d_law_follows.fd ["_law_words"] (spD K (gam T) [.bo] .sh den_law_follows) := by
  refine fn_ok (N := ["_law_words", "_law_least", "_law_most", "_law_others", "_law_sort", "_law_many"]) (s := sv_law_follows) (M0 := [.bo, .sh, .sh, .sh, .sh, .sh]) (M' := [.bo, .sh, .sh, .sh, .sh, .sh]) T.d_law_follows.fn sc_law_follows rfl rfl rfl rfl rfl (fun cdv A outer s0 H E hr => ?_)
  exact ⟨_, _, (dss_cons (ds_set (i := 1) (M1 := [.bo, .sh, .sh, .sh, .sh, .sh]) sc_law_follows.nd de_non) (dss_cons (ds_set (i := 2) (M1 := [.bo, .sh, .sh, .sh, .sh, .sh]) sc_law_follows.nd de_int) (dss_cons (ds_set (i := 3) (M1 := [.bo, .sh, .sh, .sh, .sh, .sh]) sc_law_follows.nd de_int) (dss_cons (ds_for PassesOwn.never rfl (di_anyK K (de_var (i := 0) (m := .bo))) (dg_tupK K rfl (dgs_cons (dg_name (i := 4) (M1 := [.bo, .sh, .sh, .sh, .sh, .sh]) sc_law_follows.nd) (dgs_cons (dg_name (i := 5) (M1 := [.bo, .sh, .sh, .sh, .sh, .sh]) sc_law_follows.nd) dgs_nil))) (dss_cons (ds_if (M1 := [.bo, .sh, .sh, .sh, .sh, .sh]) (DW.dt (dw_and (dt_cmp (od_eqK K (by exact hr.units)) (de_var (i := 4) (m := .sh)) de_str) (dw_and1 (DW.dt (dw_or (dt_cmp od_is (de_var (i := 1) (m := .sh)) de_non) (dw_or1 (dt_cmp od_lt (de_var (i := 5) (m := .sh)) (de_var (i := 1) (m := .sh))))))))) (dss_cons (ds_set (i := 1) (M1 := [.bo, .sh, .sh, .sh, .sh, .sh]) sc_law_follows.nd (de_var (i := 5) (m := .sh))) dss_nil) dss_nil) (dss_cons (ds_if (M1 := [.bo, .sh, .sh, .sh, .sh, .sh]) (dt_cmp (od_eqK K (by exact hr.units)) (de_var (i := 4) (m := .sh)) de_str) (dss_cons (ds_set (i := 2) (M1 := [.bo, .sh, .sh, .sh, .sh, .sh]) sc_law_follows.nd (de_callB (cd_max2 rfl) rfl T.z_max (by decide +kernel) (da_cons (m' := .sh) (de_var (i := 2) (m := .sh)) (da_cons (m' := .sh) (de_var (i := 5) (m := .sh)) da_nil)))) (dss_wipe [4, 5] dss_nil)) (dss_cons (ds_set (i := 3) (M1 := [.bo, .sh, .sh, .sh, .sh, .sh]) sc_law_follows.nd (de_op (od_addK K) (de_var (i := 3) (m := .sh)) de_int)) (dss_wipe [4, 5] dss_nil))) dss_nil))) (dss_cons (ds_if (M1 := [.bo, .sh, .sh, .sh, .sh, .sh]) (dt_cmp od_isnot (de_var (i := 1) (m := .sh)) de_non) (dss_one (ds_ret (de_tup (da_cons (m' := .sh) de_str (da_cons (m' := .sh) (de_op (od_addK K) (de_var (i := 1) (m := .sh)) de_int) da_nil))))) dss_nil) (dss_cons (ds_if (M1 := [.bo, .sh, .sh, .sh, .sh, .sh]) (dt_cmp (od_eqK K (by exact hr.units)) (de_var (i := 3) (m := .sh)) de_int) (dss_one (ds_ret (de_tup (da_cons (m' := .sh) de_str (da_cons (m' := .sh) (de_op (od_addK K) (de_var (i := 2) (m := .sh)) de_int) da_nil))))) dss_nil) (dss_one (ds_ret (de_tup (da_cons (m' := .sh) de_str (da_cons (m' := .sh) de_int da_nil)))))))))))⟩
theorem ok_law_is_word (T : Prg K mg) : FnOk P w K mg base CX0 1 T.d_law_is_word.f T.d_law_is_word.fd ["_law_word"] (spD K (gam T) [.bo] .sh den_law_is_word) := by
  refine fn_ok (N := ["_law_word"]) (s := sv_law_is_word) (M0 := [.bo]) (M' := [.bo]) T.d_law_is_word.fn sc_law_is_word rfl rfl rfl rfl rfl (fun cdv A outer s0 H E hr => ?_)
  exact ⟨_, _, (dss_cons (ds_if (M1 := [.bo]) (DW.dt (dw_or (dt_not (dt_val (de_callB (cd_isiK K) rfl T.z_isinstance (by decide +kernel) (da_cons (m' := .bo) (de_var (i := 0) (m := .bo)) (da_cons (m' := .sh) (de_ty (n := "tuple") T.z_tuple) da_nil))))) (dw_or (dt_cmp (od_neK K (by exact hr.units)) (de_callB (cd_lenK K) rfl T.z_len (by decide +kernel) (da_cons (m' := .bo) (de_var (i := 0) (m := .bo)) da_nil)) de_int) (dw_or1 (dt_cmp (od_ninK K (by exact hr.units)) (de_ixK K (by exact hr.units) (de_var (i := 0) (m := .bo)) de_int) (de_tup (da_cons (m' := .sh) de_str (da_cons (m' := .sh) de_str (da_cons (m' := .sh) de_str da_nil))))))))) (dss_one (ds_ret de_bl)) dss_nil) (dss_one (ds_ret (de_and (de_callB (cd_isiK K) rfl T.z_isinstance (by decide +kernel) (da_cons (m' := .bo) (de_ixK K (by exact hr.units) (de_var (i := 0) (m := .bo)) de_int) (da_cons (m' := .sh) (de_ty (n := "int") T.z_int) da_nil))) (de_one (de_not (de_callB (cd_isiK K) rfl T.z_isinstance (by decide +kernel) (da_cons (m' := .bo) (de_ixK K (by exact hr.units) (de_var (i := 0) (m := .bo)) de_int) (da_cons (m' := .sh) (de_ty (n := "bool") T.z_bool) da_nil)))))))))⟩
theorem ok_law (T : Prg K mg) : FnOk P w K mg base CX0 5 T.d_law.f T.d_law.fd ["_law_script"] (spD K (gam T) [.bo] .sh den_law) := by
  refine fn_ok (N := ["_law_script", "_law_nexts_here", "_law_known_here", "_law_handed", "_law_words", "_law_at", "_law_due", "_law_numbers", "_law_number"]) (s := sv_law) (M0 := [.bo, .sh, .sh, .sh, .sh, .sh, .sh, .sh, .sh]) (M' := [.bo, .sh, .sh, .sh, .sh, .sh, .sh, .sh, .sh]) T.d_law.fn sc_law rfl rfl rfl rfl rfl (fun cdv A outer s0 H E hr => ?_)
  exact ⟨_, _, (dss_cons (ds_asg (de_callDK K T.d_law_net (ok_law_net T) (hr.mono (by decide)) (da_cons (m' := .bo) (de_var (i := 0) (m := .bo)) da_nil)) (dg_tupK K rfl (dgs_cons (dg_name (i := 1) (M1 := [.bo, .sh, .sh, .sh, .sh, .sh, .sh, .sh, .sh]) sc_law.nd) (dgs_cons (dg_name (i := 2) (M1 := [.bo, .sh, .sh, .sh, .sh, .sh, .sh, .sh, .sh]) sc_law.nd) dgs_nil)))) (dss_cons (ds_set (i := 3) (M1 := [.bo, .sh, .sh, .sh, .sh, .sh, .sh, .sh, .sh]) sc_law.nd (de_tup (da_cons (m' := .sh) (de_lc (own := [("_law_numbers", 7)]) rfl sc_law.nd (blkOk_by (N := ["_law_script", "_law_nexts_here", "_law_known_here", "_law_handed", "_law_words", "_law_at", "_law_due", "_law_numbers", "_law_number"]) (sc := defScope s_law) (by decide +kernel)) (dic_anyK K (de_var (i := 1) (m := .sh))) (fun _ _ _ _ _ => (dg_name (i := 7) (M1 := [.bo, .sh, .sh, .sh, .sh, .sh, .sh, .sh, .sh]) sc_law.nd)) (fun _ _ _ _ _ => dts_nil) (fun _ _ _ _ _ => (de_callTy (cd_listK K (m := .ow) rfl) rfl T.z_list (by decide +kernel) (da_cons (m' := .bo) (de_var (i := 7) (m := .sh)) da_nil)))) (da_cons (m' := .sh) (de_callTy (cd_listK K (m := .ow) rfl) rfl T.z_list (by decide +kernel) (da_cons (m' := .bo) (de_var (i := 2) (m := .sh)) da_nil)) da_nil)))) (dss_cons (ds_set (i := 4) (M1 := [.bo, .sh, .sh, .sh, .sh, .sh, .sh, .sh, .sh]) sc_law.nd (DE.sh (de_callDK K T.d_worked (ok_worked T) (hr.mono (by decide)) (da_cons (m' := .sh) (de_ixK K (by exact hr.units) (de_var (i := 3) (m := .sh)) de_int) (da_cons (m' := .sh) (de_ixK K (by exact hr.units) (de_var (i := 3) (m := .sh)) de_int) da_nil))))) (dss_cons (ds_if (M1 := [.bo, .sh, .sh, .sh, .sh, .sh, .sh, .sh, .sh]) (DW.dt (dw_or (dt_cmp (od_neK K (by exact hr.units)) (de_ixK K (by exact hr.units) (de_var (i := 3) (m := .sh)) de_int) (de_var (i := 1) (m := .sh))) (dw_or (dt_cmp (od_neK K (by exact hr.units)) (de_ixK K (by exact hr.units) (de_var (i := 3) (m := .sh)) de_int) (de_var (i := 2) (m := .sh))) (dw_or (dt_not (dt_val (de_callB (cd_isiK K) rfl T.z_isinstance (by decide +kernel) (da_cons (m' := .bo) (de_var (i := 4) (m := .sh)) (da_cons (m' := .sh) (de_ty (n := "list") T.z_list) da_nil))))) (dw_or1 (dt_cmp (od_neK K (by exact hr.units)) (de_callB (cd_lenK K) rfl T.z_len (by decide +kernel) (da_cons (m' := .bo) (de_var (i := 4) (m := .sh)) da_nil)) (de_callB (cd_lenK K) rfl T.z_len (by decide +kernel) (da_cons (m' := .bo) (de_var (i := 2) (m := .sh)) da_nil)))))))) (dss_one (ds_ret de_bl)) dss_nil) (dss_wipe [0, 3] (dss_cons (ds_for PassesOwn.never rfl (di_rng1 T.z_range (da_cons (m' := .sh) (de_callB (cd_lenK K) rfl T.z_len (by decide +kernel) (da_cons (m' := .bo) (de_var (i := 2) (m := .sh)) da_nil)) da_nil)) (dg_name (i := 5) (M1 := [.bo, .sh, .sh, .sh, .sh, .sh, .sh, .sh, .sh]) sc_law.nd) (dss_cons (ds_if (M1 := [.bo, .sh, .sh, .sh, .sh, .sh, .sh, .sh, .sh]) (dt_not (dt_val (de_callDK K T.d_law_is_word (ok_law_is_word T) (hr.mono (by decide)) (da_cons (m' := .bo) (de_ixK K (by exact hr.units) (de_var (i := 4) (m := .sh)) (de_var (i := 5) (m := .sh))) da_nil)))) (dss_one (ds_ret de_bl)) dss_nil) (dss_cons (ds_set (i := 6) (M1 := [.bo, .sh, .sh, .sh, .sh, .sh, .sh, .sh, .sh]) sc_law.nd (de_ixK K (by exact hr.units) (de_var (i := 2) (m := .sh)) (de_var (i := 5) (m := .sh)))) (dss_cons (ds_if (M1 := [.bo, .sh, .sh, .sh, .sh, .sh, .sh, .sh, .sh]) (dt_cmp od_is (de_var (i := 6) (m := .sh)) de_non) (dss_cons (ds_set (i := 6) (M1 := [.bo, .sh, .sh, .sh, .sh, .sh, .sh, .sh, .sh]) sc_law.nd (de_callDK K T.d_law_follows (ok_law_follows T) (hr.mono (by decide)) (da_cons (m' := .bo) (de_lc (own := [("_law_number", 8)]) rfl sc_law.nd (blkOk_by (N := ["_law_script", "_law_nexts_here", "_law_known_here", "_law_handed", "_law_words", "_law_at", "_law_due", "_law_numbers", "_law_number"]) (sc := defScope s_law) (by decide +kernel)) (dic_anyK K (de_ixK K (by exact hr.units) (de_var (i := 1) (m := .sh)) (de_var (i := 5) (m := .sh)))) (fun _ _ _ _ _ => (dg_name (i := 8) (M1 := [.bo, .sh, .sh, .sh, .sh, .sh, .sh, .sh, .sh]) sc_law.nd)) (fun _ _ _ _ _ => dts_nil) (fun _ _ _ _ _ => (de_ixK K (by exact hr.units) (de_var (i := 4) (m := .sh)) (de_var (i := 8) (m := .sh))))) da_nil))) dss_nil) dss_nil) (dss_cons (ds_if (M1 := [.bo, .sh, .sh, .sh, .sh, .sh, .sh, .sh, .sh]) (dt_cmp (od_neK K (by exact hr.units)) (de_ixK K (by exact hr.units) (de_var (i := 4) (m := .sh)) (de_var (i := 5) (m := .sh))) (de_var (i := 6) (m := .sh))) (dss_one (ds_ret de_bl)) dss_nil) (dss_wipe [5, 6] dss_nil)))))) (dss_one (ds_ret de_bl))))))))⟩
end
end Pr
set_option maxHeartbeats 4000000
namespace Pr
open PySem L2 Dl
theorem lf_comers (nexts : (List (List Int))) (known : (List (Option (Str × Int)))) : ∀ r, t_comers nexts known = some r → den_comers [(eL (eL D.int)) nexts, (eL (eO (eT2 D.str D.int))) known] = some ((eL (eL D.int)) r) := by
  have h : St sv_comers (([(eL (eL D.int)) nexts, (eL (eO (eT2 D.str D.int))) known] : List D).map some ++ List.replicate (6 - 2) none) (fun r => .rt ((eL (eL D.int)) r)) _ := (stSet (lcN (e := D.int) (E' := (fun (numbers : (List Int)) => ([some ((eL (eL D.int)) nexts), some ((eL (eO (eT2 D.str D.int))) known), none, none, some ((eL D.int) numbers), none] : Dl.Env))) (itL (lv (e := (eL (eL D.int))) (x := nexts) 0)) (by intro _; rfl)) (fun found => (stSeq (stFor (E := (fun (v1 : (List (List Int))) => ([some ((eL (eL D.int)) nexts), some ((eL (eO (eT2 D.str D.int))) known), some ((eNL D.int) v1), none, none, none] : Dl.Env))) (E' := (fun (v1 : (List (List Int))) (item : (Int × (List Int))) => ([some ((eL (eL D.int)) nexts), some ((eL (eO (eT2 D.str D.int))) known), some ((eNL D.int) v1), some (D.int item.1), some ((eL D.int) item.2), none] : Dl.Env))) found (itEnL (lv (e := (eL (eL D.int))) (x := nexts) 0)) (by rfl) (by intro _ _; rfl) (fun v1 item => (stSeq (stIfM (tvM (isNM (k2PP p_ixl (lv (e := (eL (eO (eT2 D.str D.int)))) (x := known) 1) (lv (e := D.int) (x := item.1) 3)) (fun _ => rfl))) (stSeq (stFor (E := (fun (v6 : (List (List Int))) => ([some ((eL (eL D.int)) nexts), some ((eL (eO (eT2 D.str D.int))) known), some ((eNL D.int) v6), some (D.int item.1), some ((eL D.int) item.2), none] : Dl.Env))) (E' := (fun (v6 : (List (List Int))) (number : Int) => ([some ((eL (eL D.int)) nexts), some ((eL (eO (eT2 D.str D.int))) known), some ((eNL D.int) v6), some (D.int item.1), some ((eL D.int) item.2), some (D.int number)] : Dl.Env))) v1 (itL (lv (e := (eL D.int)) (x := item.2) 4)) (by rfl) (by intro _ _; rfl) (fun v6 number => (stNApp (EvP.m (lv (e := D.int) (x := number) 5)) (EvP.m (lv (e := D.int) (x := item.1) 3)) (fun found1 => (stWip (stNext (E := (fun (v6 : (List (List Int))) => ([some ((eL (eL D.int)) nexts), some ((eL (eO (eT2 D.str D.int))) known), some ((eNL D.int) v6), some (D.int item.1), some ((eL D.int) item.2), none] : Dl.Env))) found1)))))) (fun v9 => (stWip (stNext (E := (fun (v5 : (List (List Int))) => ([some ((eL (eL D.int)) nexts), some ((eL (eO (eT2 D.str D.int))) known), some ((eNL D.int) v5), none, none, none] : Dl.Env))) v9)))) (stWip (stNext (E := (fun (v5 : (List (List Int))) => ([some ((eL (eL D.int)) nexts), some ((eL (eO (eT2 D.str D.int))) known), some ((eNL D.int) v5), none, none, none] : Dl.Env))) v1))) (fun v5 => (stNext (E := (fun (v1 : (List (List Int))) => ([some ((eL (eL D.int)) nexts), some ((eL (eO (eT2 D.str D.int))) known), some ((eNL D.int) v1), none, none, none] : Dl.Env))) v5))))) (fun v12 => stRetPl))))
  exact def_of rfl h
theorem lf_begun (known : (List (Option (Str × Int)))) : ∀ r, t_begun known = some r → den_begun [(eL (eO (eT2 D.str D.int))) known] = some ((eNst kI D.int) r) := by
  have h : St sv_begun (([(eL (eO (eT2 D.str D.int))) known] : List D).map some ++ List.replicate (4 - 1) none) (fun r => .rt ((eNst kI D.int) r)) _ := (stSet (lc (e := (eNst kI D.int)) (x := ([] : (List (Int × List Int))))) (fun found => (stSeq (stFor (E := (fun (v1 : (List (Int × List Int))) => ([some ((eL (eO (eT2 D.str D.int))) known), some ((eNst kI D.int) v1), none, none] : Dl.Env))) (E' := (fun (v1 : (List (Int × List Int))) (item : (Int × (Option (Str × Int)))) => ([some ((eL (eO (eT2 D.str D.int))) known), some ((eNst kI D.int) v1), some (D.int item.1), some ((eO (eT2 D.str D.int)) item.2)] : Dl.Env))) found (itEnL (lv (e := (eL (eO (eT2 D.str D.int)))) (x := known) 0)) (by rfl) (by intro _ _; rfl) (fun v1 item => (stSeq (stIfM (andPM (tvP (isNt (lv (e := (eO (eT2 D.str D.int))) (x := item.2) 3) (fun _ => rfl))) (tvM (k2MP d_ne (k2PP (d_op opIx) (EvP.dyn (e := (eO (eT2 D.str D.int))) (lv (e := (eO (eT2 D.str D.int))) (x := item.2) 3)) (EvP.dyn (e := D.int) (lc (e := D.int) (x := (0 : Int))))) (EvP.dyn (e := D.str) (lc (e := D.str) (x := ("even" : Str))))))) (stSdApp kI_inj hkI (EvM.cast (k2PP (d_op opIx) (EvP.dyn (e := (eO (eT2 D.str D.int))) (lv (e := (eO (eT2 D.str D.int))) (x := item.2) 3)) (EvP.dyn (e := D.int) (lc (e := D.int) (x := (1 : Int))))) cI_ok) (fun _ => (EvP.m (lv (e := D.int) (x := item.1) 2))) (fun found1 => (stWip (stNext (E := (fun (v6 : (List (Int × List Int))) => ([some ((eL (eO (eT2 D.str D.int))) known), some ((eNst kI D.int) v6), none, none] : Dl.Env))) found1)))) (stWip (stNext (E := (fun (v6 : (List (Int × List Int))) => ([some ((eL (eO (eT2 D.str D.int))) known), some ((eNst kI D.int) v6), none, none] : Dl.Env))) v1))) (fun v6 => (stNext (E := (fun (v1 : (List (Int × List Int))) => ([some ((eL (eO (eT2 D.str D.int))) known), some ((eNst kI D.int) v1), none, none] : Dl.Env))) v6))))) (fun v12 => (stRet (lv (e := (eNst kI D.int)) (x := v12) 1))))))
  exact def_of rfl h
theorem lf_Working__init_ (nexts : (List (List Int))) (known : (List (Option (Str × Int)))) : ∀ r, t_Working__init_ nexts known = some r → den_Working__init_ [.ins "Working" [], (eL (eL D.int)) nexts, (eL (eO (eT2 D.str D.int))) known] = some (gOk (ePk eU (fun (k : TWorking) => [eWorking k])) r) := by
  have h : St sv_Working__init_ (([.ins "Working" [], (eL (eL D.int)) nexts, (eL (eO (eT2 D.str D.int))) known] : List D).map some ++ List.replicate (4 - 3) none) (fun (r : (Unit × TWorking)) => .nx ((fun (k : TWorking) => ([some (eWorking k), none, none, none] : Dl.Env)) r.2)) _ := (stFldN (c := "Working") (fs := []) (k := .top) (EvP.m (callP (arPcons (lv (e := (eL (eO (eT2 D.str D.int)))) (x := known) 2) (arPnil (e := (eL (eO (eT2 D.str D.int)))) (x := known) (b_listL _))))) (fun words => (stFldN (c := "Working") (fs := [("words", (eL (eO (eT2 D.str D.int))) words)]) (k := .top) (EvP.m (lcPA (E' := (fun (numbers : (List Int)) => ([some (.ins "Working" [("words", (eL (eO (eT2 D.str D.int))) words)]), some ((eL (eL D.int)) nexts), some ((eL (eO (eT2 D.str D.int))) known), some ((eL D.int) numbers)] : Dl.Env))) (e2 := D.int) (itL (lv (e := (eL (eL D.int))) (x := nexts) 1)) (by intro _; rfl) (fun (numbers : (List Int)) => (callP (arPcons (lv (e := (eL D.int)) (x := numbers) 3) (arPnil (e := D.int) (x := (numbers.length : Int)) (b_lenL _))))))) (fun waits => (stFldN (c := "Working") (fs := [("words", (eL (eO (eT2 D.str D.int))) words), ("waits", (eL D.int) waits)]) (k := .sh) (callM (arMconsP (lv (e := (eL (eL D.int))) (x := nexts) 1) (arMconsP (lv (e := (eL (eO (eT2 D.str D.int)))) (x := known) 2) (arMnil (lf_comers nexts known))))) (fun ahead => (stFldN (c := "Working") (fs := [("words", (eL (eO (eT2 D.str D.int))) words), ("waits", (eL D.int) waits), ("ahead", (eL (eL D.int)) ahead)]) (k := .dl) (callM (arMconsP (lv (e := (eL (eO (eT2 D.str D.int)))) (x := known) 2) (arMnil (lf_begun known)))) (fun agenda => (stWip (stOffI (k0 := ({ words := words, waits := waits, ahead := ahead, agenda := agenda } : TWorking)) (E := (fun (k : TWorking) => ([some (eWorking k), none, none, none] : Dl.Env)))))))))))))
  exact defMU_of (E := (fun (k : TWorking) => ([some (eWorking k), none, none, none] : Dl.Env))) rfl h
theorem lf_Working_told (self : TWorking) (at_ : Int) (word : (Str × Int)) : ∀ r, t_Working_told self at_ word = some r → den_Working_told [eWorking self, D.int at_, (eT2 D.str D.int) word] = some (gOk (ePk eU (fun (k : TWorking) => [eWorking k])) r) := by
  have h : St sv_Working_told (([eWorking self, D.int at_, (eT2 D.str D.int) word] : List D).map some ++ List.replicate (3 - 3) none) (fun (r : (Unit × TWorking)) => .nx ((fun (k : TWorking) => ([some (eWorking k), none, none] : Dl.Env)) r.2)) _ := (stFPut (c := "Working") (fs := [("words", (eL (eO (eT2 D.str D.int))) self.words), ("waits", (eL D.int) self.waits), ("ahead", (eL (eL D.int)) self.ahead), ("agenda", (eNst kI D.int) self.agenda)]) (EvP.m (EvP.some (lv (e := (eT2 D.str D.int)) (x := word) 2))) (EvP.m (lv (e := D.int) (x := at_) 1)) (fun words => (stFSd (c := "Working") (fs := [("words", (eL (eO (eT2 D.str D.int))) ({ self with words := words } : TWorking).words), ("waits", (eL D.int) ({ self with words := words } : TWorking).waits), ("ahead", (eL (eL D.int)) ({ self with words := words } : TWorking).ahead), ("agenda", (eNst kI D.int) ({ self with words := words } : TWorking).agenda)]) kI_inj hkI (EvP.m (ixT (e2 := D.int) (y := word.2) (lv (e := (eT2 D.str D.int)) (x := word) 2) rfl)) (fun _ => (EvP.m (lv (e := D.int) (x := at_) 1))) (fun agenda => (stWip (stOffI (k0 := ({ ({ self with words := words } : TWorking) with agenda := agenda } : TWorking)) (E := (fun (k : TWorking) => ([some (eWorking k), none, none] : Dl.Env)))))))))
  exact defMU_of (E := (fun (k : TWorking) => ([some (eWorking k), none, none] : Dl.Env))) rfl h
theorem lf_Working_led (self : TWorking) (at_ : Int) : ∀ r, t_Working_led self at_ = some r → den_Working_led [eWorking self, D.int at_] = some (gOk (ePk eU (fun (k : TWorking) => [eWorking k])) r) := by
  have h : St sv_Working_led (([eWorking self, D.int at_] : List D).map some ++ List.replicate (5 - 2) none) (fun (r : (Unit × TWorking)) => .nx ((fun (k : TWorking) => ([some (eWorking k), none, none, none, none] : Dl.Env)) r.2)) _ := (stAsgM (EvM.opt (k2PP p_ixl (fldP (e2 := (eL (eO (eT2 D.str D.int)))) (y := self.words) (lv (e := eWorking) (x := self) 0)) (lv (e := D.int) (x := at_) 1))) (by intro _; rfl) (fun pair => (stSeq (stForM (E := (fun (v8 : TWorking) => ([some (eWorking v8), some (D.int at_), some (eD (D.str pair.1)), some (eD (D.int pair.2)), none] : Dl.Env))) (E' := (fun (v8 : TWorking) (one : Int) => ([some (eWorking v8), some (D.int at_), some (eD (D.str pair.1)), some (eD (D.int pair.2)), some (D.int one)] : Dl.Env))) self (itLM (k2PP p_ixl (fldP (e2 := (eL (eL D.int))) (y := self.ahead) (lv (e := eWorking) (x := self) 0)) (lv (e := D.int) (x := at_) 1))) (by rfl) (by intro _ _; rfl) (fun v8 one => (stSeq (stIfM (andM (tvM (isNM (k2PP p_ixl (fldP (e2 := (eL (eO (eT2 D.str D.int)))) (y := v8.words) (lv (e := eWorking) (x := v8) 0)) (lv (e := D.int) (x := one) 4)) (fun _ => rfl))) (tvM (k2PP d_eq (lv (e := eD) (x := (D.str pair.1)) 2) (EvP.dyn (e := D.str) (lc (e := D.str) (x := ("lost" : Str))))))) (stExprF (methF (c := "Working") (fs := [("words", (eL (eO (eT2 D.str D.int))) v8.words), ("waits", (eL D.int) v8.waits), ("ahead", (eL (eL D.int)) v8.ahead), ("agenda", (eNst kI D.int) v8.agenda)]) (P := (fun (k : TWorking) => ([some (eWorking k), some (D.int at_), some (eD (D.str pair.1)), some (eD (D.int pair.2)), some (D.int one)] : Dl.Env))) (arGconsP (lv (e := D.int) (x := one) 4) (arGconsM (tupM (arMconsP (lc (e := D.str) (x := ("won" : Str))) (arMconsM (l2MP t_add (EvP.cast (lv (e := eD) (x := (D.int pair.2)) 3) cI_ok) (lc (e := D.int) (x := (1 : Int)))) (fun z19 => (arMtot (e := (eT2 D.str D.int)) (x := (("won" : Str), z19)) rfl))))) (fun z20 => (arGnil (lf_Working_told v8 one z20)))))) (fun (k21 : TWorking) => (stWip (stNext (E := (fun (v16 : TWorking) => ([some (eWorking v16), some (D.int at_), some (eD (D.str pair.1)), some (eD (D.int pair.2)), none] : Dl.Env))) k21)))) (stSeq (stIfM (tvM (isNM (k2PP p_ixl (fldP (e2 := (eL (eO (eT2 D.str D.int)))) (y := v8.words) (lv (e := eWorking) (x := v8) 0)) (lv (e := D.int) (x := one) 4)) (fun _ => rfl))) (stFPut (c := "Working") (fs := [("words", (eL (eO (eT2 D.str D.int))) v8.words), ("waits", (eL D.int) v8.waits), ("ahead", (eL (eL D.int)) v8.ahead), ("agenda", (eNst kI D.int) v8.agenda)]) (l2MP t_sub (k2PP p_ixl (fldP (e2 := (eL D.int)) (y := v8.waits) (lv (e := eWorking) (x := v8) 0)) (lv (e := D.int) (x := one) 4)) (lc (e := D.int) (x := (1 : Int)))) (EvP.m (lv (e := D.int) (x := one) 4)) (fun waits => (stSeq (stIfM (tvM (l2MP (t_eq enc_int) (k2PP p_ixl (fldP (e2 := (eL D.int)) (y := ({ v8 with waits := waits } : TWorking).waits) (lv (e := eWorking) (x := ({ v8 with waits := waits } : TWorking)) 0)) (lv (e := D.int) (x := one) 4)) (lc (e := D.int) (x := (0 : Int))))) (stExprF (methF (c := "Working") (fs := [("words", (eL (eO (eT2 D.str D.int))) ({ v8 with waits := waits } : TWorking).words), ("waits", (eL D.int) ({ v8 with waits := waits } : TWorking).waits), ("ahead", (eL (eL D.int)) ({ v8 with waits := waits } : TWorking).ahead), ("agenda", (eNst kI D.int) ({ v8 with waits := waits } : TWorking).agenda)]) (P := (fun (k : TWorking) => ([some (eWorking k), some (D.int at_), some (eD (D.str pair.1)), some (eD (D.int pair.2)), some (D.int one)] : Dl.Env))) (arGconsP (lv (e := D.int) (x := one) 4) (arGconsM (tupM (arMconsP (lc (e := D.str) (x := ("lost" : Str))) (arMconsM (l2MP t_add (EvP.cast (lv (e := eD) (x := (D.int pair.2)) 3) cI_ok) (lc (e := D.int) (x := (1 : Int)))) (fun z40 => (arMtot (e := (eT2 D.str D.int)) (x := (("lost" : Str), z40)) rfl))))) (fun z41 => (arGnil (lf_Working_told ({ v8 with waits := waits } : TWorking) one z41)))))) (fun (k42 : TWorking) => (stWip (stNext (E := (fun (v37 : TWorking) => ([some (eWorking v37), some (D.int at_), some (eD (D.str pair.1)), some (eD (D.int pair.2)), none] : Dl.Env))) k42)))) (stWip (stNext (E := (fun (v37 : TWorking) => ([some (eWorking v37), some (D.int at_), some (eD (D.str pair.1)), some (eD (D.int pair.2)), none] : Dl.Env))) ({ v8 with waits := waits } : TWorking)))) (fun v37 => (stNext (E := (fun (v26 : TWorking) => ([some (eWorking v26), some (D.int at_), some (eD (D.str pair.1)), some (eD (D.int pair.2)), none] : Dl.Env))) v37))))) (stWip (stNext (E := (fun (v26 : TWorking) => ([some (eWorking v26), some (D.int at_), some (eD (D.str pair.1)), some (eD (D.int pair.2)), none] : Dl.Env))) v8))) (fun v26 => (stNext (E := (fun (v16 : TWorking) => ([some (eWorking v16), some (D.int at_), some (eD (D.str pair.1)), some (eD (D.int pair.2)), none] : Dl.Env))) v26)))) (fun v16 => (stNext (E := (fun (v8 : TWorking) => ([some (eWorking v8), some (D.int at_), some (eD (D.str pair.1)), some (eD (D.int pair.2)), none] : Dl.Env))) v16))))) (fun v48 => (stWip (stOffI (k0 := v48) (E := (fun (k : TWorking) => ([some (eWorking k), none, none, none, none] : Dl.Env)))))))))
  exact defMU_of (E := (fun (k : TWorking) => ([some (eWorking k), none, none, none, none] : Dl.Env))) rfl h
theorem lf_Working_done (self : TWorking) : ∀ r, t_Working_done self = some r → den_Working_done [eWorking self] = some (gOk (ePk (eL (eT2 D.str D.int)) (fun (k : TWorking) => [eWorking k])) r) := by
  have h : St sv_Working_done (([eWorking self] : List D).map some ++ List.replicate (3 - 1) none) (fun r => .rt ((ePk (eL (eT2 D.str D.int)) (fun (k : TWorking) => [eWorking k])) r)) _ := (stSeq (stWhile (E := (fun (v1 : TWorking) => ([some (eWorking v1), none, none] : Dl.Env))) self (by rfl) (fun v1 => (TsP.m (tsNe0 (c := "Working") (fs := [("words", (eL (eO (eT2 D.str D.int))) v1.words), ("waits", (eL D.int) v1.waits), ("ahead", (eL (eL D.int)) v1.ahead), ("agenda", (eNst kI D.int) v1.agenda)])))) (fun v1 => (stSeq (stForPop (c := "Working") (fs := [("words", (eL (eO (eT2 D.str D.int))) v1.words), ("waits", (eL D.int) v1.waits), ("ahead", (eL (eL D.int)) v1.ahead), ("agenda", (eNst kI D.int) v1.agenda)]) (E := (fun (v2 : TWorking) => ([some (eWorking v2), none, none] : Dl.Env))) (E' := (fun (v2 : TWorking) (at_ : Int) => ([some (eWorking v2), some (eD (D.int at_)), none] : Dl.Env))) (v0 := (fun (q : (List (Int × List Int))) => ({ v1 with agenda := q } : TWorking))) kI_inj hkI (callM (arMconsP (keysF (c := "Working") (fs := [("words", (eL (eO (eT2 D.str D.int))) v1.words), ("waits", (eL D.int) v1.waits), ("ahead", (eL (eL D.int)) v1.ahead), ("agenda", (eNst kI D.int) v1.agenda)])) (arMnil (b_min _)))) (by intro _; rfl) (by intro _ _; rfl) (fun v2 at_ => (stExprF (methF (c := "Working") (fs := [("words", (eL (eO (eT2 D.str D.int))) v2.words), ("waits", (eL D.int) v2.waits), ("ahead", (eL (eL D.int)) v2.ahead), ("agenda", (eNst kI D.int) v2.agenda)]) (P := (fun (k : TWorking) => ([some (eWorking k), some (eD (D.int at_)), none] : Dl.Env))) (arGconsM (EvP.cast (lv (e := eD) (x := (D.int at_)) 1) cI_ok) (fun z3 => (arGnil (lf_Working_led v2 z3))))) (fun (k4 : TWorking) => (stWip (stNext (E := (fun (v2 : TWorking) => ([some (eWorking v2), none, none] : Dl.Env))) k4)))))) (fun v5 => (stNext (E := (fun (v1 : TWorking) => ([some (eWorking v1), none, none] : Dl.Env))) v5))))) (fun v8 => (stRetIM (k0 := v8) (lcM (E' := (fun (word : (Option (Str × Int))) => ([some (eWorking v8), none, some ((eO (eT2 D.str D.int)) word)] : Dl.Env))) (e2 := (eT2 D.str D.int)) (ItP.m (itL (fldP (e2 := (eL (eO (eT2 D.str D.int)))) (y := v8.words) (lv (e := eWorking) (x := v8) 0)))) (by intro _; rfl) (fun (word : (Option (Str × Int))) => (TsP.m yesP)) (fun (word : (Option (Str × Int))) => (EvP.opt (ifPPP (tvP (isN (lv (e := (eO (eT2 D.str D.int))) (x := word) 2) (fun _ => rfl))) (EvP.some (tupP (arPcons (lc (e := D.str) (x := ("even" : Str))) (arPcons (lc (e := D.int) (x := (0 : Int))) (arPnil (e := (eT2 D.str D.int)) (x := (("even" : Str), (0 : Int))) rfl))))) (lv (e := (eO (eT2 D.str D.int))) (x := word) 2))))))))
  exact defM_of rfl h
theorem lf_worked (nexts : (List (List Int))) (known : (List (Option (Str × Int)))) : ∀ r, t_worked nexts known = some r → den_worked [(eL (eL D.int)) nexts, (eL (eO (eT2 D.str D.int))) known] = some ((eL (eT2 D.str D.int)) r) := by
  have h : St sv_worked (([(eL (eL D.int)) nexts, (eL (eO (eT2 D.str D.int))) known] : List D).map some ++ List.replicate (2 - 2) none) (fun r => .rt ((eL (eT2 D.str D.int)) r)) _ := (stRetM (tmpM (mkM (arGconsP (lv (e := (eL (eL D.int))) (x := nexts) 0) (arGconsP (lv (e := (eL (eO (eT2 D.str D.int)))) (x := known) 1) (arGnil (lf_Working__init_ nexts known))))) (fun o r q => lf_Working_done o r q)))
  exact def_of rfl h
theorem lf_law_cell_at (script : (List Int)) (k : Int) : ∀ r, t_law_cell_at script k = some r → den_law_cell_at [eS script, D.int k] = some (D.int r) := by
  have h : St sv_law_cell_at (([eS script, D.int k] : List D).map some ++ List.replicate (2 - 2) none) (fun r => .rt (D.int r)) _ := (stIfT nnRet (tvP (l2PP t_lt (lv (e := D.int) (x := k) 1) (callP (arPcons (lv (e := eS) (x := script) 0) (arPnil (e := D.int) (x := (script.length : Int)) (b_lenscr _)))))) (stRetM (k2PP p_ixscr (lv (e := eS) (x := script) 0) (lv (e := D.int) (x := k) 1))) (stSkip (stRet (lc (e := D.int) (x := (0 : Int))))))
  exact def_of rfl h
theorem lf_law_known (cell : Int) : ∀ r, t_law_known cell = some r → den_law_known [D.int cell] = some ((eO (eT2 D.str D.int)) r) := by
  have h : St sv_law_known (([D.int cell] : List D).map some ++ List.replicate (2 - 1) none) (fun r => .rt ((eO (eT2 D.str D.int)) r)) _ := (stIfT nnRet (tvP (l2PP t_gt (modK (lv (e := D.int) (x := cell) 0)) (lc (e := D.int) (x := (0 : Int))))) (stRet (lc (e := (eO (eT2 D.str D.int))) (x := none))) (stSkip (stSetM (k2PP p_ixl (lstP (arPcons (lc (e := D.str) (x := ("won" : Str))) (arPcons (lc (e := D.str) (x := ("lost" : Str))) (arPcons (lc (e := D.str) (x := ("lost" : Str))) (arPcons (lc (e := D.str) (x := ("even" : Str))) (arPnil (e := (eL D.str)) (x := [("won" : Str), ("lost" : Str), ("lost" : Str), ("even" : Str)]) rfl)))))) (modK (divK (lv (e := D.int) (x := cell) 0)))) (fun sort => (stIfT nnRet (tvP (l2PP (t_eq enc_str) (lv (e := D.str) (x := sort) 1) (lc (e := D.str) (x := ("even" : Str))))) (stRet (EvP.some (tupP (arPcons (lc (e := D.str) (x := ("even" : Str))) (arPcons (lc (e := D.int) (x := (0 : Int))) (arPnil (e := (eT2 D.str D.int)) (x := (("even" : Str), (0 : Int))) rfl)))))) (stSkip (stIfT nnRet (tvP (l2PP (t_eq enc_int) (modK (divK (lv (e := D.int) (x := cell) 0))) (lc (e := D.int) (x := (1 : Int))))) (stRetM (EvM.some (tupM (arMconsP (lv (e := D.str) (x := sort) 1) (arMconsM (k2PP p_mod (divK (lv (e := D.int) (x := cell) 0)) (l2PP t_add powK (lc (e := D.int) (x := (1 : Int))))) (fun z5 => (arMtot (e := (eT2 D.str D.int)) (x := (sort, z5)) rfl))))))) (stSkip (stRet (EvP.some (tupP (arPcons (lv (e := D.str) (x := sort) 1) (arPcons (modK (divK (lv (e := D.int) (x := cell) 0))) (arPnil (e := (eT2 D.str D.int)) (x := (sort, ((cell / 80) % 21))) rfl))))))))))))))
  exact def_of rfl h
theorem lf_law_nexts (cell : Int) (at_ : Int) (many : Int) (is_near : Bool) : ∀ r, t_law_nexts cell at_ many is_near = some r → den_law_nexts [D.int cell, D.int at_, D.int many, D.bl is_near] = some ((eL D.int) r) := by
  have h : St sv_law_nexts (([D.int cell, D.int at_, D.int many, D.bl is_near] : List D).map some ++ List.replicate (7 - 4) none) (fun r => .rt ((eL D.int) r)) _ := (stSetI (lstP (arPnil (e := (eL D.int)) (x := []) rfl)) (stSeq (stForM (E := (fun (v1 : (List Int)) => ([some (D.int cell), some (D.int at_), some (D.int many), some (D.bl is_near), some ((eL D.int) v1), none, none] : Dl.Env))) (E' := (fun (v1 : (List Int)) (k : Int) => ([some (D.int cell), some (D.int at_), some (D.int many), some (D.bl is_near), some ((eL D.int) v1), some (D.int k), none] : Dl.Env))) [] (itR (l2PP t_add (lc (e := D.int) (x := (1 : Int))) (modK (divK (lv (e := D.int) (x := cell) 0))))) (by rfl) (by intro _ _; rfl) (fun v1 k => (stSetM (modKM (mulKM (l2MP t_add (k2PP p_div (lv (e := D.int) (x := cell) 0) (l2PP t_add (lv (e := D.int) (x := k) 5) (lc (e := D.int) (x := (1 : Int))))) (Kmul (lv (e := D.int) (x := k) 5))))) (fun step => (stSeq (stIf (tvP (lv (e := D.bl) (x := is_near) 3)) (stAppM (k2PP p_mod (l2PP t_sub (l2PP t_add (lv (e := D.int) (x := at_) 1) (modK (lv (e := D.int) (x := step) 6))) (lc (e := D.int) (x := (1 : Int)))) (lv (e := D.int) (x := many) 2)) (fun found => (stWip (stNext (E := (fun (v8 : (List Int)) => ([some (D.int cell), some (D.int at_), some (D.int many), some (D.bl is_near), some ((eL D.int) v8), none, none] : Dl.Env))) found)))) (stAppM (k2PP p_mod (lv (e := D.int) (x := step) 6) (lv (e := D.int) (x := many) 2)) (fun found1 => (stWip (stNext (E := (fun (v8 : (List Int)) => ([some (D.int cell), some (D.int at_), some (D.int many), some (D.bl is_near), some ((eL D.int) v8), none, none] : Dl.Env))) found1))))) (fun v8 => (stNext (E := (fun (v1 : (List Int)) => ([some (D.int cell), some (D.int at_), some (D.int many), some (D.bl is_near), some ((eL D.int) v1), none, none] : Dl.Env))) v8))))))) (fun v15 => (stRet (lv (e := (eL D.int)) (x := v15) 4)))))
  exact def_of rfl h
theorem lf_law_net (script : (List Int)) : ∀ r, t_law_net script = some r → den_law_net [eS script] = some ((eT2 (eL (eL D.int)) (eL (eO (eT2 D.str D.int)))) r) := by
  have h : St sv_law_net (([eS script] : List D).map some ++ List.replicate (9 - 1) none) (fun r => .rt ((eT2 (eL (eL D.int)) (eL (eO (eT2 D.str D.int)))) r)) _ := (stSetM (l2PM t_add (lc (e := D.int) (x := (1 : Int))) (modKM (callM (arMconsP (lv (e := eS) (x := script) 0) (arMconsP (lc (e := D.int) (x := (0 : Int))) (arMnil (lf_law_cell_at script (0 : Int)))))))) (fun many => (stSetM (callM (arMconsP (lv (e := eS) (x := script) 0) (arMconsP (lc (e := D.int) (x := (1 : Int))) (arMnil (lf_law_cell_at script (1 : Int)))))) (fun way => (stSetI (lstP (arPnil (e := (eL (eL D.int))) (x := []) rfl)) (stSetI (lstP (arPnil (e := (eL (eO (eT2 D.str D.int)))) (x := []) rfl)) (stSeq (stForM (E := (fun (v4 : ((List (List Int)) × (List (Option (Str × Int))))) => ([some (eS script), some (D.int many), some (D.int way), some ((eL (eL D.int)) v4.1), some ((eL (eO (eT2 D.str D.int))) v4.2), none, none, none, none] : Dl.Env))) (E' := (fun (v4 : ((List (List Int)) × (List (Option (Str × Int))))) (at_ : Int) => ([some (eS script), some (D.int many), some (D.int way), some ((eL (eL D.int)) v4.1), some ((eL (eO (eT2 D.str D.int))) v4.2), some (D.int at_), none, none, none] : Dl.Env))) ([], []) (itR (lv (e := D.int) (x := many) 1)) (by rfl) (by intro _ _; rfl) (fun v4 at_ => (stSetM (modKM (mulKM (l2MP t_add (callM (arMconsP (lv (e := eS) (x := script) 0) (arMconsP (l2PP t_add (lc (e := D.int) (x := (2 : Int))) (modK (lv (e := D.int) (x := at_) 5))) (arMnil (lf_law_cell_at script ((2 : Int) + (at_ % 61))))))) (Kmul (lv (e := D.int) (x := at_) 5))))) (fun cell => (stSetM (callM (arMconsP (lv (e := D.int) (x := cell) 6) (arMnil (lf_law_known cell)))) (fun word => (stSetM (callM (arMconsP (lv (e := D.int) (x := cell) 6) (arMconsP (lv (e := D.int) (x := at_) 5) (arMconsP (lv (e := D.int) (x := many) 1) (arMconsP (l2PP (t_eq enc_int) (modK (lv (e := D.int) (x := way) 2)) (lc (e := D.int) (x := (1 : Int)))) (arMnil (lf_law_nexts cell at_ many (decide ((way % 2) = (1 : Int)))))))))) (fun numbers => (stSeq (stIf (tvP (l2PP (t_eq enc_int) (modK (divK (lv (e := D.int) (x := way) 2))) (lc (e := D.int) (x := (1 : Int))))) (stSetI (lc (e := (eO (eT2 D.str D.int))) (x := none)) (stSet (lstP (arPcons (l2PP t_add (lv (e := D.int) (x := at_) 5) (lc (e := D.int) (x := (1 : Int)))) (arPnil (e := (eL D.int)) (x := [(at_ + (1 : Int))]) rfl))) (fun numbers1 => (stSeq (stIf (tvP (l2PP (t_eq enc_int) (l2PP t_add (lv (e := D.int) (x := at_) 5) (lc (e := D.int) (x := (1 : Int)))) (lv (e := D.int) (x := many) 1))) (stSetM (EvM.some (k2PP p_ixl (lstP (arPcons (tupP (arPcons (lc (e := D.str) (x := ("lost" : Str))) (arPcons (modK (divK (lv (e := D.int) (x := way) 2))) (arPnil (e := (eT2 D.str D.int)) (x := (("lost" : Str), ((way / 8) % 9))) rfl)))) (arPcons (tupP (arPcons (lc (e := D.str) (x := ("won" : Str))) (arPcons (modK (divK (lv (e := D.int) (x := way) 2))) (arPnil (e := (eT2 D.str D.int)) (x := (("won" : Str), ((way / 8) % 9))) rfl)))) (arPnil (e := (eL (eT2 D.str D.int))) (x := [(("lost" : Str), ((way / 8) % 9)), (("won" : Str), ((way / 8) % 9))]) rfl)))) (modK (divK (lv (e := D.int) (x := way) 2))))) (fun word1 => (stNext (E := (fun (v10 : (Option (Str × Int))) => ([some (eS script), some (D.int many), some (D.int way), some ((eL (eL D.int)) v4.1), some ((eL (eO (eT2 D.str D.int))) v4.2), some (D.int at_), some (D.int cell), some ((eO (eT2 D.str D.int)) v10), some ((eL D.int) numbers1)] : Dl.Env))) word1))) (stNext (E := (fun (v10 : (Option (Str × Int))) => ([some (eS script), some (D.int many), some (D.int way), some ((eL (eL D.int)) v4.1), some ((eL (eO (eT2 D.str D.int))) v4.2), some (D.int at_), some (D.int cell), some ((eO (eT2 D.str D.int)) v10), some ((eL D.int) numbers1)] : Dl.Env))) none)) (fun v10 => (stNext (E := (fun (v9 : ((Option (Str × Int)) × (List Int))) => ([some (eS script), some (D.int many), some (D.int way), some ((eL (eL D.int)) v4.1), some ((eL (eO (eT2 D.str D.int))) v4.2), some (D.int at_), some (D.int cell), some ((eO (eT2 D.str D.int)) v9.1), some ((eL D.int) v9.2)] : Dl.Env))) (v10, numbers1))))))) (stNext (E := (fun (v9 : ((Option (Str × Int)) × (List Int))) => ([some (eS script), some (D.int many), some (D.int way), some ((eL (eL D.int)) v4.1), some ((eL (eO (eT2 D.str D.int))) v4.2), some (D.int at_), some (D.int cell), some ((eO (eT2 D.str D.int)) v9.1), some ((eL D.int) v9.2)] : Dl.Env))) (word, numbers))) (fun v9 => (stSeq (stIf (andPP (tvP (isNt (lv (e := (eO (eT2 D.str D.int))) (x := v9.1) 7) (fun _ => rfl))) (orPP (tvP (l2PP (t_eq enc_int) (modK (lv (e := D.int) (x := cell) 6)) (lc (e := D.int) (x := (0 : Int))))) (tvP (l2PP (t_eq enc_int) (l2PP t_add (lv (e := D.int) (x := at_) 5) (lc (e := D.int) (x := (1 : Int)))) (lv (e := D.int) (x := many) 1))))) (stSetI (lstP (arPnil (e := (eL D.int)) (x := []) rfl)) (stWip (stNext (E := (fun (v14 : (List Int)) => ([some (eS script), some (D.int many), some (D.int way), some ((eL (eL D.int)) v4.1), some ((eL (eO (eT2 D.str D.int))) v4.2), none, none, some ((eO (eT2 D.str D.int)) v9.1), some ((eL D.int) v14)] : Dl.Env))) []))) (stWip (stNext (E := (fun (v14 : (List Int)) => ([some (eS script), some (D.int many), some (D.int way), some ((eL (eL D.int)) v4.1), some ((eL (eO (eT2 D.str D.int))) v4.2), none, none, some ((eO (eT2 D.str D.int)) v9.1), some ((eL D.int) v14)] : Dl.Env))) v9.2))) (fun v14 => (stApp (lv (e := (eO (eT2 D.str D.int))) (x := v9.1) 7) (fun known_here => (stApp (lv (e := (eL D.int)) (x := v14) 8) (fun nexts_here => (stWip (stNext (E := (fun (v4 : ((List (List Int)) × (List (Option (Str × Int))))) => ([some (eS script), some (D.int many), some (D.int way), some ((eL (eL D.int)) v4.1), some ((eL (eO (eT2 D.str D.int))) v4.2), none, none, none, none] : Dl.Env))) (nexts_here, known_here))))))))))))))))))) (fun v15 => (stRet (tupP (arPcons (lv (e := (eL (eL D.int))) (x := v15.1) 3) (arPcons (lv (e := (eL (eO (eT2 D.str D.int)))) (x := v15.2) 4) (arPnil (e := (eT2 (eL (eL D.int)) (eL (eO (eT2 D.str D.int))))) (x := (v15.1, v15.2)) rfl)))))))))))))
  exact def_of rfl h
theorem lf_law_follows (words : (List (Str × Int))) : ∀ r, t_law_follows words = some r → den_law_follows [(eL (eT2 D.str D.int)) words] = some ((eT2 D.str eD) r) := by
  have h : St sv_law_follows (([(eL (eT2 D.str D.int)) words] : List D).map some ++ List.replicate (6 - 1) none) (fun r => .rt ((eT2 D.str eD) r)) _ := (stSetI (lc (e := (eO D.int)) (x := none)) (stSetI (lc (e := D.int) (x := (0 : Int))) (stSetI (lc (e := D.int) (x := (0 : Int))) (stSeq (stFor (E := (fun (v1 : ((Option Int) × Int × Int)) => ([some ((eL (eT2 D.str D.int)) words), some ((eO D.int) v1.1), some (D.int v1.2.1), some (D.int v1.2.2), none, none] : Dl.Env))) (E' := (fun (v1 : ((Option Int) × Int × Int)) (item : (Str × Int)) => ([some ((eL (eT2 D.str D.int)) words), some ((eO D.int) v1.1), some (D.int v1.2.1), some (D.int v1.2.2), some (D.str item.1), some (D.int item.2)] : Dl.Env))) (none, (0 : Int), (0 : Int)) (itL (lv (e := (eL (eT2 D.str D.int))) (x := words) 0)) (by rfl) (by intro _ _; rfl) (fun v1 item => (stSeq (stIfM (andPM (tvP (l2PP (t_eq enc_str) (lv (e := D.str) (x := item.1) 4) (lc (e := D.str) (x := ("lost" : Str))))) (orPM (tvP (isN (lv (e := (eO D.int)) (x := v1.1) 1) nn_int)) (tvM (l2PM t_lt (lv (e := D.int) (x := item.2) 5) (EvP.opt (lv (e := (eO D.int)) (x := v1.1) 1)))))) (stSet (EvP.some (lv (e := D.int) (x := item.2) 5)) (fun least => (stNext (E := (fun (v4 : (Option Int)) => ([some ((eL (eT2 D.str D.int)) words), some ((eO D.int) v4), some (D.int v1.2.1), some (D.int v1.2.2), some (D.str item.1), some (D.int item.2)] : Dl.Env))) least))) (stNext (E := (fun (v4 : (Option Int)) => ([some ((eL (eT2 D.str D.int)) words), some ((eO D.int) v4), some (D.int v1.2.1), some (D.int v1.2.2), some (D.str item.1), some (D.int item.2)] : Dl.Env))) v1.1)) (fun v4 => (stSeq (stIf (tvP (l2PP (t_eq enc_str) (lv (e := D.str) (x := item.1) 4) (lc (e := D.str) (x := ("won" : Str))))) (stSet (callP (arPcons (lv (e := D.int) (x := v1.2.1) 2) (arPcons (lv (e := D.int) (x := item.2) 5) (arPnil (e := D.int) (x := (max2 v1.2.1 item.2)) (b_max2 _ _))))) (fun most => (stWip (stNext (E := (fun (v5 : (Int × Int)) => ([some ((eL (eT2 D.str D.int)) words), some ((eO D.int) v4), some (D.int v5.1), some (D.int v5.2), none, none] : Dl.Env))) (most, v1.2.2))))) (stSet (l2PP t_add (lv (e := D.int) (x := v1.2.2) 3) (lc (e := D.int) (x := (1 : Int)))) (fun others => (stWip (stNext (E := (fun (v5 : (Int × Int)) => ([some ((eL (eT2 D.str D.int)) words), some ((eO D.int) v4), some (D.int v5.1), some (D.int v5.2), none, none] : Dl.Env))) (v1.2.1, others)))))) (fun v5 => (stNext (E := (fun (v1 : ((Option Int) × Int × Int)) => ([some ((eL (eT2 D.str D.int)) words), some ((eO D.int) v1.1), some (D.int v1.2.1), some (D.int v1.2.2), none, none] : Dl.Env))) (v4, v5.1, v5.2)))))))) (fun v7 => (stIfT nnRet (tvP (isNt (lv (e := (eO D.int)) (x := v7.1) 1) nn_int)) (stRetM (tupM (arMconsP (lc (e := D.str) (x := ("won" : Str))) (arMconsM (EvM.dyn (e := D.int) (l2MP t_add (EvP.opt (lv (e := (eO D.int)) (x := v7.1) 1)) (lc (e := D.int) (x := (1 : Int))))) (fun z11 => (arMtot (e := (eT2 D.str eD)) (x := (("won" : Str), z11)) rfl)))))) (stSkip (stIfT nnRet (tvP (l2PP (t_eq enc_int) (lv (e := D.int) (x := v7.2.2) 3) (lc (e := D.int) (x := (0 : Int))))) (stRet (tupP (arPcons (lc (e := D.str) (x := ("lost" : Str))) (arPcons (EvP.dyn (e := D.int) (l2PP t_add (lv (e := D.int) (x := v7.2.1) 2) (lc (e := D.int) (x := (1 : Int))))) (arPnil (e := (eT2 D.str eD)) (x := (("lost" : Str), (D.int (v7.2.1 + (1 : Int))))) rfl))))) (stSkip (stRet (tupP (arPcons (lc (e := D.str) (x := ("even" : Str))) (arPcons (EvP.dyn (e := D.int) (lc (e := D.int) (x := (0 : Int)))) (arPnil (e := (eT2 D.str eD)) (x := (("even" : Str), (D.int (0 : Int)))) rfl))))))))))))))
  exact def_of rfl h
theorem lf_law_is_word (word : (Str × Int)) : ∀ r, t_law_is_word word = some r → den_law_is_word [(eT2 D.str D.int) word] = some (D.bl r) := by
  have h : St sv_law_is_word (([(eT2 D.str D.int) word] : List D).map some ++ List.replicate (1 - 1) none) (fun r => .rt (D.bl r)) _ := (stIfTM nnRet (orPM (notP (tvP (callP (arPcons (lv (e := (eT2 D.str D.int)) (x := word) 0) (arPcons (lc (e := eD) (x := .ty "tuple")) (arPnil (e := D.bl) (x := true) (isiK (a := "tuple") rfl (by decide +kernel)))))))) (orM (tvM (l2MP (t_ne enc_int) (callM (arMconsP (EvP.dyn (e := (eT2 D.str D.int)) (lv (e := (eT2 D.str D.int)) (x := word) 0)) (arMnil (b_lenD _)))) (lc (e := D.int) (x := (2 : Int))))) (tvM (k2PP d_nin (EvP.dyn (e := D.str) (ixT (e2 := D.str) (y := word.1) (lv (e := (eT2 D.str D.int)) (x := word) 0) rfl)) (EvP.dyn (e := (eT3 D.str D.str D.str)) (tupP (arPcons (lc (e := D.str) (x := ("won" : Str))) (arPcons (lc (e := D.str) (x := ("lost" : Str))) (arPcons (lc (e := D.str) (x := ("even" : Str))) (arPnil (e := (eT3 D.str D.str D.str)) (x := (("won" : Str), ("lost" : Str), ("even" : Str))) rfl)))))))))) (stRet (lc (e := D.bl) (x := false))) (stSkip (stRet (vandPP (callP (arPcons (ixT (e2 := D.int) (y := word.2) (lv (e := (eT2 D.str D.int)) (x := word) 0) rfl) (arPcons (lc (e := eD) (x := .ty "int")) (arPnil (e := D.bl) (x := true) (isiK (a := "int") rfl (by decide +kernel)))))) (vnotP (callP (arPcons (ixT (e2 := D.int) (y := word.2) (lv (e := (eT2 D.str D.int)) (x := word) 0) rfl) (arPcons (lc (e := eD) (x := .ty "bool")) (arPnil (e := D.bl) (x := false) (isiK (a := "int") rfl (by decide +kernel)))))))))))
  exact def_of rfl h
theorem lf_law (script : (List Int)) : ∀ r, t_law script = some r → den_law [eS script] = some (D.bl r) := by
  have h : St sv_law (([eS script] : List D).map some ++ List.replicate (9 - 1) none) (fun r => .rt (D.bl r)) _ := (stAsgM (callM (arMconsP (lv (e := eS) (x := script) 0) (arMnil (lf_law_net script)))) (by intro _; rfl) (fun pair => (stSet (tupP (arPcons (lcPA (E' := (fun (numbers : (List Int)) => ([some (eS script), some ((eL (eL D.int)) pair.1), some ((eL (eO (eT2 D.str D.int))) pair.2), none, none, none, none, some ((eL D.int) numbers), none] : Dl.Env))) (e2 := (eL D.int)) (itL (lv (e := (eL (eL D.int))) (x := pair.1) 1)) (by intro _; rfl) (fun (numbers : (List Int)) => (callP (arPcons (lv (e := (eL D.int)) (x := numbers) 7) (arPnil (e := (eL D.int)) (x := numbers) (b_listL _)))))) (arPcons (callP (arPcons (lv (e := (eL (eO (eT2 D.str D.int)))) (x := pair.2) 2) (arPnil (e := (eL (eO (eT2 D.str D.int)))) (x := pair.2) (b_listL _)))) (arPnil (e := (eT2 (eL (eL D.int)) (eL (eO (eT2 D.str D.int))))) (x := ((pair.1.map fun numbers => numbers), pair.2)) rfl)))) (fun handed => (stSetM (callM (arMconsP (ixT (e2 := (eL (eL D.int))) (y := handed.1) (lv (e := (eT2 (eL (eL D.int)) (eL (eO (eT2 D.str D.int))))) (x := handed) 3) rfl) (arMconsP (ixT (e2 := (eL (eO (eT2 D.str D.int)))) (y := handed.2) (lv (e := (eT2 (eL (eL D.int)) (eL (eO (eT2 D.str D.int))))) (x := handed) 3) rfl) (arMnil (lf_worked handed.1 handed.2))))) (fun words => (stIfT nnRet (orPP (tvP (l2PP (t_ne (enc_l (enc_l enc_int))) (ixT (e2 := (eL (eL D.int))) (y := handed.1) (lv (e := (eT2 (eL (eL D.int)) (eL (eO (eT2 D.str D.int))))) (x := handed) 3) rfl) (lv (e := (eL (eL D.int))) (x := pair.1) 1))) (orPP (tvP (l2PP (t_ne (enc_l (enc_o (enc_t2 enc_str enc_int) (fun _ => rfl)))) (ixT (e2 := (eL (eO (eT2 D.str D.int)))) (y := handed.2) (lv (e := (eT2 (eL (eL D.int)) (eL (eO (eT2 D.str D.int))))) (x := handed) 3) rfl) (lv (e := (eL (eO (eT2 D.str D.int)))) (x := pair.2) 2))) (orPP (notP (tvP (callP (arPcons (lv (e := (eL (eT2 D.str D.int))) (x := words) 4) (arPcons (lc (e := eD) (x := .ty "list")) (arPnil (e := D.bl) (x := true) (isiK (a := "list") rfl (by decide +kernel)))))))) (tvP (l2PP (t_ne enc_int) (callP (arPcons (lv (e := (eL (eT2 D.str D.int))) (x := words) 4) (arPnil (e := D.int) (x := (words.length : Int)) (b_lenL _)))) (callP (arPcons (lv (e := (eL (eO (eT2 D.str D.int)))) (x := pair.2) 2) (arPnil (e := D.int) (x := (pair.2.length : Int)) (b_lenL _))))))))) (stRet (lc (e := D.bl) (x := false))) (stSkip (stWip (stSeqC (Rr := (fun r => r)) (stForCM (E := (fun (v2 : Unit) => ([none, some ((eL (eL D.int)) pair.1), some ((eL (eO (eT2 D.str D.int))) pair.2), none, some ((eL (eT2 D.str D.int)) words), none, none, none, none] : Dl.Env))) (E' := (fun (v2 : Unit) (at_ : Int) => ([none, some ((eL (eL D.int)) pair.1), some ((eL (eO (eT2 D.str D.int))) pair.2), none, some ((eL (eT2 D.str D.int)) words), some (D.int at_), none, none, none] : Dl.Env))) (e2 := D.bl) () (itR (callP (arPcons (lv (e := (eL (eO (eT2 D.str D.int)))) (x := pair.2) 2) (arPnil (e := D.int) (x := (pair.2.length : Int)) (b_lenL _))))) (by rfl) (by intro _ _; rfl) (fun v2 at_ => (stIfTM nnRet (notM (tvM (callM (arMconsM (k2PP p_ixl (lv (e := (eL (eT2 D.str D.int))) (x := words) 4) (lv (e := D.int) (x := at_) 5)) (fun z5 => (arMnil (lf_law_is_word z5))))))) (stRetC (E := (fun (v2 : Unit) => ([none, some ((eL (eL D.int)) pair.1), some ((eL (eO (eT2 D.str D.int))) pair.2), none, some ((eL (eT2 D.str D.int)) words), none, none, none, none] : Dl.Env))) (lc (e := D.bl) (x := false))) (stSkip (stSetM (EvM.map (e' := (eO (eT2 D.str eD))) (Option.map (fun (p : (Str × Int)) => ((fun x => x) p.1, D.int p.2))) (k2PP p_ixl (lv (e := (eL (eO (eT2 D.str D.int)))) (x := pair.2) 2) (lv (e := D.int) (x := at_) 5)) (eO_conv (fun (p : (Str × Int)) => ((fun x => x) p.1, D.int p.2)) (eT2_conv (fun x => x) D.int (fun _ => rfl) (fun _ => rfl)))) (fun due => (stSeq (stIf (tvP (isN (lv (e := (eO (eT2 D.str eD))) (x := due) 6) (fun _ => rfl))) (stSetM (EvM.some (callM (arMconsM (lcM (E' := (fun (number : Int) => ([none, some ((eL (eL D.int)) pair.1), some ((eL (eO (eT2 D.str D.int))) pair.2), none, some ((eL (eT2 D.str D.int)) words), some (D.int at_), some ((eO (eT2 D.str eD)) due), none, some (D.int number)] : Dl.Env))) (e2 := (eT2 D.str D.int)) (itLM (k2PP p_ixl (lv (e := (eL (eL D.int))) (x := pair.1) 1) (lv (e := D.int) (x := at_) 5))) (by intro _; rfl) (fun (number : Int) => (TsP.m yesP)) (fun (number : Int) => (k2PP p_ixl (lv (e := (eL (eT2 D.str D.int))) (x := words) 4) (lv (e := D.int) (x := number) 8)))) (fun z16 => (arMnil (lf_law_follows z16)))))) (fun due1 => (stNext (E := (fun (v10 : (Option (Str × D))) => ([none, some ((eL (eL D.int)) pair.1), some ((eL (eO (eT2 D.str D.int))) pair.2), none, some ((eL (eT2 D.str D.int)) words), some (D.int at_), some ((eO (eT2 D.str eD)) v10), none, none] : Dl.Env))) due1))) (stNext (E := (fun (v10 : (Option (Str × D))) => ([none, some ((eL (eL D.int)) pair.1), some ((eL (eO (eT2 D.str D.int))) pair.2), none, some ((eL (eT2 D.str D.int)) words), some (D.int at_), some ((eO (eT2 D.str eD)) v10), none, none] : Dl.Env))) due)) (fun v10 => (stIfTM nnRet (tvM (k2MP d_ne (EvM.dyn (e := (eT2 D.str D.int)) (k2PP p_ixl (lv (e := (eL (eT2 D.str D.int))) (x := words) 4) (lv (e := D.int) (x := at_) 5))) (EvP.dyn (e := (eO (eT2 D.str eD))) (lv (e := (eO (eT2 D.str eD))) (x := v10) 6)))) (stRetC (E := (fun (v2 : Unit) => ([none, some ((eL (eL D.int)) pair.1), some ((eL (eO (eT2 D.str D.int))) pair.2), none, some ((eL (eT2 D.str D.int)) words), none, none, none, none] : Dl.Env))) (lc (e := D.bl) (x := false))) (stSkip (stWip (stNextC (E := (fun (v2 : Unit) => ([none, some ((eL (eL D.int)) pair.1), some ((eL (eO (eT2 D.str D.int))) pair.2), none, some ((eL (eT2 D.str D.int)) words), none, none, none, none] : Dl.Env))) (e := D.bl) ())))))))))))) (fun v25 => (stRet (lc (e := D.bl) (x := true))))))))))))))
  exact def_of rfl h
theorem law_of_t (ns : List Int) (h : t_law ns = some true) : den_law [.scr ns] = some (.bl true) := lf_law ns true h
end Pr
namespace Pr
open PySem L2 Dl
/-! ### an agenda: numbers, and the places that stand under them -/
abbrev Ag := List (Int × List Int)
def agG : Ag → Int → List Int
  | [], _ => []
  | p :: r, k => if p.1 = k then p.2 else agG r k
theorem agG_cons (p : Int × List Int) (r : Ag) (k : Int) : agG (p :: r) k = if p.1 = k then p.2 else agG r k := rfl
theorem agG_nil (k : Int) : agG [] k = [] := rfl
def insG (k x : Int) : Ag → Ag
  | [] => [(k, [x])]
  | p :: r => if p.1 = k then (p.1, p.2 ++ [x]) :: r else p :: insG k x r
def AgS (n : Nat) (l : Ag) : Prop := l.length ≤ n ∧ ∀ p ∈ l, p.2.length ≤ n
theorem sdT_cons {k x : Int} {p : Int × List Int} {l : Ag} (c : ¬ p.1 = k) (hl : l.length < 1000000) : ∀ {l' : Ag}, sdT k x l = some l' → sdT k x (p :: l) = some (p :: l') := by
  intro l' h
  have lt1 : l.length < sizeLine := lt_line (by omega)
  have lt2 : (p :: l).length < sizeLine := lt_line (by rw [List.length_cons]; omega)
  have key : ∀ {m m' : Ag}, apKA k x m = some m' → apKA k x (p :: m) = some (p :: m') := fun {m m'} h => by
    unfold apKA at h ⊢
    have e : kIxA k (p :: m) = (kIxA k m).map (· + 1) := if_neg c
    rw [e]
    cases q : kIxA k m with
    | none => rw [q] at h; cases h
    | some n =>
      rw [q, Option.bind_some] at h
      rw [Option.map_some, Option.bind_some]
      show (m[n]?).bind _ = _
      cases q2 : m[n]? with
      | none => rw [q2] at h; cases h
      | some y =>
        rw [q2, Option.bind_some] at h
        rw [Option.bind_some]
        obtain ⟨c2, rfl⟩ := ite_some h
        rw [if_pos c2]; rfl
  obtain ⟨l0, q1, q2⟩ := bind_eq h
  unfold sdT
  have e : kIxA k (p :: l) = (kIxA k l).map (· + 1) := if_neg c
  have : sdPA k (p :: l) = some (p :: l0) := by
    unfold sdPA at q1 ⊢
    rw [e]
    cases q : kIxA k l with
    | none => rw [q] at q1; obtain ⟨_, rfl⟩ := ite_some q1; exact if_pos lt2
    | some n => rw [q] at q1; obtain ⟨_, rfl⟩ := ite_some q1; exact if_pos lt2
  rw [this, Option.bind_some]
  exact key q2
theorem sdT_ok {k x : Int} : ∀ {l : Ag}, AgS 100000 l → sdT k x l = some (insG k x l)
  | [], _ => by
    unfold sdT sdPA
    rw [show kIxA k ([] : Ag) = none from rfl]
    dsimp only
    rw [if_pos (lt_line (by decide)), Option.bind_some]
    unfold apKA
    rw [show kIxA k ([] ++ [(k, ([] : List Int))]) = some 0 from if_pos rfl, Option.bind_some]
    show (some (k, ([] : List Int))).bind _ = _
    show (if ([] : List Int).length < sizeLine then some [(k, ([] : List Int) ++ [x])] else none) = some [(k, [x])]
    rw [if_pos (lt_line (show ([] : List Int).length ≤ 1000000 from Nat.zero_le _))]; rfl
  | p :: r, h => by
    by_cases c : p.1 = k
    · have l1 := h.1
      unfold insG
      rw [if_pos c]
      unfold sdT sdPA
      rw [show kIxA k (p :: r) = some 0 from if_pos c]
      dsimp only
      rw [if_pos (lt_line (by omega)), Option.bind_some]
      unfold apKA
      rw [show kIxA k (p :: r) = some 0 from if_pos c, Option.bind_some]
      show (some p).bind _ = _
      rw [Option.bind_some, if_pos (lt_line (by have := h.2 p List.mem_cons_self; omega))]; rfl
    · have hr : AgS 100000 r := ⟨by have := h.1; rw [List.length_cons] at this; omega, fun q hq => h.2 q (List.mem_cons_of_mem _ hq)⟩
      have := sdT_cons (x := x) (p := p) c (by have := hr.1; omega) (sdT_ok hr)
      rw [this]
      show _ = some (if p.1 = k then (p.1, p.2 ++ [x]) :: r else p :: insG k x r)
      rw [if_neg c]
theorem insG_get {k x : Int} : ∀ {l : Ag} {j : Int}, agG (insG k x l) j = if j = k then agG l k ++ [x] else agG l j
  | [], j => by
    unfold insG
    rw [agG_cons, agG_nil, agG_nil]
    by_cases c : j = k
    · rw [if_pos c, if_pos c.symm]; rfl
    · rw [if_neg c, if_neg (fun z => c z.symm)]
  | p :: r, j => by
    unfold insG
    by_cases c : p.1 = k
    · rw [if_pos c]
      unfold agG
      by_cases d : j = k
      · rw [if_pos d, if_pos (by rw [d]; exact c), if_pos c]
      · rw [if_neg d, if_neg (fun z => d (by rw [← z]; exact c)), if_neg (fun z => d (by rw [← z]; exact c))]
    · rw [if_neg c]
      unfold agG
      rw [if_neg c, insG_get (l := r)]
      by_cases d : j = k
      · rw [if_pos d, if_neg (fun z => c (z.trans d)), if_pos d]
      · rw [if_neg d, if_neg d]
theorem insG_keys {k x : Int} : ∀ {l : Ag} {j : Int}, j ∈ (insG k x l).map (·.1) ↔ j ∈ l.map (·.1) ∨ j = k
  | [], j => by simp [insG]
  | p :: r, j => by
    unfold insG
    by_cases c : p.1 = k
    · rw [if_pos c]
      simp only [List.map_cons, List.mem_cons]
      constructor
      · rintro (h | h)
        · exact .inl (.inl h)
        · exact .inl (.inr h)
      · rintro ((h | h) | h)
        · exact .inl h
        · exact .inr h
        · exact .inl (h.trans c.symm)
    · rw [if_neg c]
      simp only [List.map_cons, List.mem_cons, insG_keys (l := r)]
      constructor
      · rintro (h | h | h)
        · exact .inl (.inl h)
        · exact .inl (.inr h)
        · exact .inr h
      · rintro ((h | h) | h)
        · exact .inl h
        · exact .inr (.inl h)
        · exact .inr (.inr h)
/-- keys stand once, no list is empty -/
structure AgK (l : Ag) : Prop where
  nd : (l.map (·.1)).Nodup
  ne : ∀ p ∈ l, p.2 ≠ []
theorem insG_ok {k x : Int} : ∀ {l : Ag}, AgK l → AgK (insG k x l)
  | [], _ => ⟨by simp [insG], by simp [insG]⟩
  | p :: r, h => by
    have hr : AgK r := ⟨(List.nodup_cons.mp h.nd).2, fun q hq => h.ne q (List.mem_cons_of_mem _ hq)⟩
    unfold insG
    by_cases c : p.1 = k
    · rw [if_pos c]
      refine ⟨h.nd, fun q hq => ?_⟩
      rcases List.mem_cons.mp hq with rfl | hq
      · simp
      · exact hr.ne q hq
    · rw [if_neg c]
      have ih := insG_ok (k := k) (x := x) hr
      refine ⟨List.nodup_cons.mpr ⟨fun z => ?_, ih.nd⟩, fun q hq => ?_⟩
      · rcases insG_keys.mp z with z | z
        · exact (List.nodup_cons.mp h.nd).1 z
        · exact c z
      · rcases List.mem_cons.mp hq with rfl | hq
        · exact h.ne q List.mem_cons_self
        · exact ih.ne q hq
/-- how much stands in it -/
def agN : Ag → Nat
  | [] => 0
  | p :: r => p.2.length + agN r
theorem agN_cons (p : Int × List Int) (r : Ag) : agN (p :: r) = p.2.length + agN r := rfl
theorem insG_n {k x : Int} : ∀ {l : Ag}, agN (insG k x l) = agN l + 1
  | [] => rfl
  | p :: r => by
    unfold insG
    split
    · unfold agN; rw [List.length_append, List.length_singleton]; omega
    · unfold agN; rw [insG_n (l := r)]; omega
theorem agK_size : ∀ {l : Ag}, AgK l → l.length ≤ agN l ∧ ∀ p ∈ l, p.2.length ≤ agN l
  | [], _ => ⟨Nat.le_refl _, fun p hp => nomatch hp⟩
  | p :: r, h => by
    obtain ⟨h1, h2⟩ := agK_size (l := r) ⟨(List.nodup_cons.mp h.nd).2, fun q hq => h.ne q (List.mem_cons_of_mem _ hq)⟩
    have hp : 1 ≤ p.2.length := by
      have := h.ne p List.mem_cons_self
      cases q : p.2 with
      | nil => exact (this q).elim
      | cons y ys => rw [List.length_cons]; omega
    unfold agN
    refine ⟨by rw [List.length_cons]; omega, fun q hq => ?_⟩
    rcases List.mem_cons.mp hq with rfl | hq
    · omega
    · have := h2 q hq; omega
theorem agG_mem : ∀ {l : Ag} {k : Int}, agG l k ≠ [] → k ∈ l.map (·.1)
  | [], _, h => (h rfl).elim
  | p :: r, k, h => by
    unfold agG at h
    by_cases c : p.1 = k
    · exact List.mem_cons.mpr (.inl c.symm)
    · rw [if_neg c] at h; exact List.mem_cons_of_mem _ (agG_mem h)
theorem agG_ne : ∀ {l : Ag} {k : Int}, AgK l → k ∈ l.map (·.1) → agG l k ≠ []
  | p :: r, k, h, hk => by
    unfold agG
    by_cases c : p.1 = k
    · rw [if_pos c]; exact h.ne p List.mem_cons_self
    · rw [if_neg c]
      rcases List.mem_cons.mp hk with e | hk
      · exact (c e.symm).elim
      · exact agG_ne ⟨(List.nodup_cons.mp h.nd).2, fun q hq => h.ne q (List.mem_cons_of_mem _ hq)⟩ hk
/-! a number is taken out -/
def delG (k : Int) (l : Ag) : Ag := l.filter fun p => decide (p.1 ≠ k)
theorem delG_get {k : Int} : ∀ {l : Ag} {j : Int}, agG (delG k l) j = if j = k then [] else agG l j
  | [], j => by unfold delG agG; simp
  | p :: r, j => by
    have ih := delG_get (k := k) (l := r) (j := j)
    unfold delG at ih ⊢
    by_cases c : p.1 = k
    · rw [List.filter_cons_of_neg (by simpa using c), ih]
      by_cases d : j = k
      · rw [if_pos d, if_pos d]
      · rw [if_neg d, if_neg d, agG_cons, if_neg fun z => d (z.symm.trans c)]
    · rw [List.filter_cons_of_pos (by simpa using c), agG_cons, agG_cons, ih]
      by_cases e : p.1 = j
      · rw [if_pos e, if_neg (fun z => c (e.trans z)), if_pos e]
      · rw [if_neg e, if_neg e]
theorem delG_ok {k : Int} {l : Ag} (h : AgK l) : AgK (delG k l) :=
  ⟨h.nd.sublist (List.Sublist.map _ List.filter_sublist), fun p hp => h.ne p (List.mem_filter.mp hp).1⟩
theorem delG_n {k : Int} : ∀ {l : Ag}, AgK l → agN (delG k l) + (agG l k).length = agN l
  | [], _ => rfl
  | p :: r, h => by
    have hr : AgK r := ⟨(List.nodup_cons.mp h.nd).2, fun q hq => h.ne q (List.mem_cons_of_mem _ hq)⟩
    have ih := delG_n (k := k) hr
    unfold delG at ih ⊢
    by_cases c : p.1 = k
    · rw [List.filter_cons_of_neg (by simpa using c)]
      have hk : k ∉ r.map (·.1) := c ▸ (List.nodup_cons.mp h.nd).1
      have e : agG r k = [] := by
        cases q : agG r k with
        | nil => rfl
        | cons y ys => exact (hk (agG_mem (by rw [q]; simp))).elim
      rw [e, List.length_nil] at ih
      rw [agN_cons, agG_cons, if_pos c]
      omega
    · rw [List.filter_cons_of_pos (by simpa using c), agN_cons, agN_cons, agG_cons, if_neg c]
      omega
theorem popNT_ok {k : Int} : ∀ {l : Ag}, k ∈ l.map (·.1) → popNT k l = some (agG l k, delG k l) := by
  intro l hk
  have key : ∀ {l : Ag}, k ∈ l.map (·.1) → ∃ n, kIxA k l = some n ∧ l[n]? = some (k, agG l k) := by
    intro l
    induction l with
    | nil => intro h; cases h
    | cons p r ih =>
      intro h
      by_cases c : p.1 = k
      · exact ⟨0, if_pos c, by unfold agG; rw [if_pos c, ← c]; rfl⟩
      · rcases List.mem_cons.mp h with e | h
        · exact (c e.symm).elim
        · obtain ⟨n, h1, h2⟩ := ih h
          refine ⟨n + 1, ?_, ?_⟩
          · show (if p.1 = k then some 0 else (kIxA k r).map (· + 1)) = _
            rw [if_neg c, h1]; rfl
          · unfold agG; rw [if_neg c]; exact h2
  obtain ⟨n, h1, h2⟩ := key hk
  unfold popNT
  rw [h1, Option.bind_some, h2]; rfl
end Pr
set_option maxHeartbeats 1000000
namespace Pr
open PySem L2 Dl
abbrev Wrd := Str × Int
/-! ### a net -/
structure Net (nexts : List (List Int)) (known : List (Option Wrd)) : Prop where
  len : nexts.length = known.length
  le : known.length ≤ 1000
  rg : ∀ xs ∈ nexts, ∀ x ∈ xs, 0 ≤ x ∧ x < known.length
  sz : ∀ xs ∈ nexts, xs.length ≤ 50
  ne : ∀ (i : Nat) xs, nexts[i]? = some xs → known[i]? = some none → xs ≠ []
  kw : ∀ w, some w ∈ known → (w.1 = "won" ∨ w.1 = "lost" ∨ w.1 = "even") ∧ 0 ≤ w.2
/-- what stands at a place -/
def pl {α : Type} (l : List α) (d : α) (i : Int) : α := (l[i.toNat]?).getD d
theorem pl_at {α : Type} {l : List α} {d : α} {i : Int} (h0 : 0 ≤ i) (h1 : i < l.length) : atI l i = some (pl l d i) ∧ l[i.toNat]? = some (pl l d i) := by
  obtain ⟨x, e, _, q⟩ := atI_ok h0 h1
  unfold pl
  rw [e, q]; exact ⟨rfl, rfl⟩
theorem put_ok {α : Type} {l : List α} {i : Int} (h0 : 0 ≤ i) (h1 : i < l.length) (x : α) : putLT l i x = some (l.set i.toNat x) := by
  unfold putLT ixN
  rw [if_pos h0, if_pos h1]; rfl
theorem pl_set {α : Type} {l : List α} {d x : α} {i j : Int} (h0 : 0 ≤ i) (h1 : i < l.length) (j0 : 0 ≤ j) : pl (l.set i.toNat x) d j = if j = i then x else pl l d j := by
  unfold pl
  by_cases c : j = i
  · subst c
    rw [List.getElem?_set_self (by omega), if_pos rfl]; rfl
  · rw [List.getElem?_set_ne (by omega), if_neg c]
/-! ### comers -/
theorem nap_ok {v : List (List Int)} {k x : Int} (h0 : 0 ≤ k) (h1 : k < v.length) (hl : (pl v [] k).length ≤ 100000) : napT v k x = some (v.set k.toNat (pl v [] k ++ [x])) := by
  unfold napT ixN
  rw [if_pos h0, if_pos h1, Option.bind_some, (pl_at (d := []) h0 h1).2, Option.bind_some, if_pos (lt_line (by omega))]
/-- an inner walk: x comes to each number, as often as it stands there -/
theorem inner_ok (x : Int) : ∀ (xs : List Int) (v : List (List Int)), (∀ y ∈ xs, 0 ≤ y ∧ y < v.length) → (∀ j : Int, 0 ≤ j → j < v.length → (pl v [] j).length + xs.length ≤ 100000) →
    ∃ v', foldT (fun v6 number => ((some number).bind fun z7 => (some x).bind fun z8 => (napT v6 z7 z8).bind fun found1 => (some found1))) xs v = some v' ∧ v'.length = v.length ∧ ∀ j : Int, 0 ≤ j → j < v.length → pl v' [] j = pl v [] j ++ List.replicate (xs.count j) x
  | [], v, _, _ => ⟨v, rfl, rfl, fun j _ _ => by simp⟩
  | y :: xs, v, hr, hs => by
    obtain ⟨y0, y1⟩ := hr y List.mem_cons_self
    have hy := hs y y0 y1
    rw [List.length_cons] at hy
    have e1 := nap_ok (x := x) y0 y1 (by omega)
    have ln : (v.set y.toNat (pl v [] y ++ [x])).length = v.length := List.length_set
    obtain ⟨v', e2, l2, g2⟩ := inner_ok x xs (v.set y.toNat (pl v [] y ++ [x])) (fun z hz => by rw [ln]; exact hr z (List.mem_cons_of_mem _ hz)) (fun j j0 j1 => by
      rw [ln] at j1
      have := hs j j0 j1
      rw [List.length_cons] at this
      rw [pl_set y0 y1 j0]
      split
      · rename_i c; subst c; rw [List.length_append, List.length_singleton]; omega
      · omega)
    refine ⟨v', ?_, l2.trans ln, fun j j0 j1 => ?_⟩
    · rw [foldT_cons, Option.bind_some, Option.bind_some, e1, Option.bind_some, Option.bind_some]; exact e2
    · rw [g2 j j0 (by rw [ln]; exact j1), pl_set y0 y1 j0, List.count_cons]
      by_cases c : j = y
      · subst c
        rw [if_pos rfl, if_pos (by simp), List.append_assoc, List.replicate_succ]; rfl
      · rw [if_neg c, if_neg (by simpa using fun z => c z.symm)]
        simp
theorem comers_ok {nexts : List (List Int)} {known : List (Option Wrd)} (N : Net nexts known) : ∃ ah, t_comers nexts known = some ah ∧ ah.length = known.length ∧ ∀ j : Int, 0 ≤ j → j < known.length → ∀ x, (pl ah [] j).count x = if 0 ≤ x ∧ x < known.length ∧ pl known none x = none then (pl nexts [] x).count j else 0 := by
  -- the places that are gone through, one by one
  have main : ∀ (m : Nat), m ≤ nexts.length → ∃ v, foldT (fun v1 item => ((((atI known item.1).bind fun z4 => some z4.isNone).bind fun z11 => if z11 = true then ((foldT (fun v6 number => ((some number).bind fun z7 => (some item.1).bind fun z8 => (napT v6 z7 z8).bind fun found1 => (some found1))) item.2 v1).bind fun v9 => (some v9)) else (some v1)).bind fun v5 => (some v5))) ((enumT nexts).take m) (nexts.map fun _ => ([] : List Int)) = some v ∧ v.length = nexts.length ∧
      (∀ j : Int, 0 ≤ j → j < nexts.length → (pl v [] j).length ≤ 50 * m) ∧ ∀ j : Int, 0 ≤ j → j < known.length → ∀ x, (pl v [] j).count x = if 0 ≤ x ∧ x < m ∧ pl known none x = none then (pl nexts [] x).count j else 0 := by
    intro m
    induction m with
    | zero =>
      intro _
      have e0 : ∀ j, pl (nexts.map fun _ => ([] : List Int)) [] j = [] := fun j => by
        unfold pl
        rw [List.getElem?_map]
        cases nexts[j.toNat]? <;> rfl
      refine ⟨nexts.map fun _ => [], by simp [foldT_nil], by simp, fun j _ _ => by rw [e0]; simp, fun j _ _ x => ?_⟩
      rw [e0, if_neg (by omega)]; rfl
    | succ m ih =>
      intro hm
      obtain ⟨v, e1, l1, s1, g1⟩ := ih (by omega)
      have hx : nexts[m]? = some nexts[m] := List.getElem?_eq_getElem (by omega)
      have et : (enumT nexts).take (m + 1) = (enumT nexts).take m ++ [((m : Int), nexts[m])] := by
        rw [List.take_add_one, enumT_get, hx]; rfl
      have pm : pl nexts [] (m : Int) = nexts[m] := by
        unfold pl
        rw [show ((m : Int)).toNat = m from by omega, hx]; rfl
      have hk := N.len
      have hmem : nexts[m] ∈ nexts := List.getElem_mem _
      obtain ⟨a1, a2⟩ := pl_at (l := known) (d := none) (i := (m : Int)) (by omega) (by omega)
      have app : ∀ {B : List (List Int) → Int × List Int → Option (List (List Int))} {xs : List (Int × List Int)} {y : Int × List Int} {v0 w w' : List (List Int)}, foldT B xs v0 = some w → B w y = some w' → foldT B (xs ++ [y]) v0 = some w' := by
        intro B xs
        induction xs with
        | nil => intro y v0 w w' h1 h2; cases h1; rw [List.nil_append, foldT_cons, h2]; rfl
        | cons z xs ih => intro y v0 w w' h1 h2; rw [foldT_cons] at h1; obtain ⟨v1, q1, q2⟩ := bind_eq h1; rw [List.cons_append, foldT_cons, q1]; exact ih q2 h2
      by_cases c : pl known none (m : Int) = none
      · obtain ⟨v', e2, l2, g2⟩ := inner_ok (m : Int) nexts[m] v (fun y hy => by rw [l1, hk]; exact N.rg _ hmem y hy) (fun j j0 j1 => by
          rw [l1] at j1
          have := s1 j j0 j1
          have := N.sz _ hmem
          have := N.le
          omega)
        refine ⟨v', ?_, l2.trans l1, fun j j0 j1 => ?_, fun j j0 j1 x => ?_⟩
        · rw [et]
          refine app e1 ?_
          show (((atI known (m : Int)).bind _).bind _).bind _ = _
          rw [a1, c]
          show ((foldT _ nexts[m] v).bind _).bind _ = _
          rw [e2]; rfl
        · rw [g2 j j0 (by rw [l1]; exact j1), List.length_append, List.length_replicate]
          have := s1 j j0 j1
          have h2 := List.count_le_length (a := j) (l := nexts[m])
          have := N.sz _ hmem
          omega
        · rw [g2 j j0 (by omega), List.count_append, g1 j j0 j1, List.count_replicate]
          by_cases d : x = (m : Int)
          · subst d
            rw [if_neg (by omega), if_pos (by simp), if_pos ⟨by omega, by omega, c⟩, pm, Nat.zero_add]
          · have dn : ((m : Int) == x) = false := by
              have : ¬ (m : Int) = x := fun z => d z.symm
              simpa using this
            rw [dn, if_neg Bool.false_ne_true, Nat.add_zero]
            by_cases d2 : 0 ≤ x ∧ x < (m : Int) ∧ pl known none x = none
            · rw [if_pos d2, if_pos ⟨d2.1, by omega, d2.2.2⟩]
            · rw [if_neg d2, if_neg fun z => d2 ⟨z.1, by omega, z.2.2⟩]
      · refine ⟨v, ?_, l1, fun j j0 j1 => by have := s1 j j0 j1; omega, fun j j0 j1 x => ?_⟩
        · rw [et]
          refine app e1 ?_
          show (((atI known (m : Int)).bind _).bind _).bind _ = _
          rw [a1]
          cases q : pl known none (m : Int) with
          | none => exact (c q).elim
          | some w => rfl
        · rw [g1 j j0 j1 x]
          by_cases d : x = (m : Int)
          · subst d
            rw [if_neg (by omega), if_neg fun z => c z.2.2]
          · by_cases d2 : 0 ≤ x ∧ x < (m : Int) ∧ pl known none x = none
            · rw [if_pos d2, if_pos ⟨d2.1, by omega, d2.2.2⟩]
            · rw [if_neg d2, if_neg fun z => d2 ⟨z.1, by omega, z.2.2⟩]
  obtain ⟨v, e, l, _, g⟩ := main nexts.length (Nat.le_refl _)
  rw [List.take_of_length_le (by rw [enumT_len]; exact Nat.le_refl _)] at e
  refine ⟨v, ?_, l.trans N.len, fun j j0 j1 x => ?_⟩
  · unfold t_comers
    rw [lett_def, e]; rfl
  · rw [g j j0 j1 x, N.len]
end Pr
set_option maxHeartbeats 1000000
namespace Pr
open PySem L2 Dl
theorem eqv_str' (a b : Str) : D.eqv (.str a) (.str b) = (a == b) := rfl
theorem neB_str (a b : Str) : neB (.str a) (.str b) = some (!decide (a = b)) := by
  have c : cmpOk (.str a) (.str b) = true := rfl
  unfold neB
  rw [if_pos c, eqv_str']
  by_cases h : a = b <;> simp [h]
theorem eqB_str (a b : Str) : eqB (.str a) (.str b) = some (decide (a = b)) := by
  have c : cmpOk (.str a) (.str b) = true := rfl
  unfold eqB
  rw [if_pos c, eqv_str']
  by_cases h : a = b <;> simp [h]
theorem eqB_int (a b : Int) : eqB (.int a) (.int b) = some (decide (a = b)) := by
  have c : cmpOk (.int a) (.int b) = true := rfl
  unfold eqB
  rw [if_pos c]
  show some (a == b) = _
  by_cases h : a = b <;> simp [h]
theorem ix0 (w : Wrd) : opIx ((eO (eT2 D.str D.int)) (some w)) (D.int (0 : Int)) = some (.str w.1) := rfl
theorem ix1 (w : Wrd) : (opIx ((eO (eT2 D.str D.int)) (some w)) (D.int (1 : Int))).bind cI = some w.2 := rfl
/-- known, and won or lost -/
def dec (o : Option Wrd) (k : Int) : Prop := ∃ s, o = some (s, k) ∧ s ≠ "even"
instance (o : Option Wrd) (k : Int) : Decidable (dec o k) := match o with
  | none => isFalse fun ⟨_, e, _⟩ => nomatch e
  | some w => if h : w.2 = k ∧ w.1 ≠ "even" then isTrue ⟨w.1, by rw [← h.1], h.2⟩ else isFalse fun ⟨s, e, n⟩ => h (by cases e; exact ⟨rfl, n⟩)
theorem fold_app {α σ : Type} {B : σ → α → Option σ} : ∀ {xs : List α} {y : α} {v0 w w' : σ}, foldT B xs v0 = some w → B w y = some w' → foldT B (xs ++ [y]) v0 = some w'
  | [], y, v0, w, w', h1, h2 => by cases h1; rw [List.nil_append, foldT_cons, h2]; rfl
  | z :: xs, y, v0, w, w', h1, h2 => by
    rw [foldT_cons] at h1
    obtain ⟨v1, q1, q2⟩ := bind_eq h1
    rw [List.cons_append, foldT_cons, q1]
    exact fold_app (xs := xs) q2 h2
theorem AgK.sz {n : Nat} {l : Ag} (h : AgK l) (hn : agN l ≤ n) : AgS n l := ⟨Nat.le_trans (agK_size h).1 hn, fun p hp => Nat.le_trans ((agK_size h).2 p hp) hn⟩
theorem begun_ok {known : List (Option Wrd)} (hle : known.length ≤ 1000) : ∃ ag, t_begun known = some ag ∧ AgK ag ∧ agN ag ≤ known.length ∧ ∀ k x : Int, (agG ag k).count x = if 0 ≤ x ∧ x < known.length ∧ dec (pl known none x) k then 1 else 0 := by
  have main : ∀ (m : Nat), m ≤ known.length → ∃ v, foldT (fun v1 item => (((if item.2.isSome = true then ((opIx ((eO (eT2 D.str D.int)) item.2) (D.int (0 : Int))).bind fun z4 => (neB z4 (D.str ("even" : Str)))) else some false).bind fun z11 => if z11 = true then (((opIx ((eO (eT2 D.str D.int)) item.2) (D.int (1 : Int))).bind cI).bind fun z9 => (some item.1).bind fun z10 => (sdT z9 z10 v1).bind fun found1 => (some found1)) else (some v1)).bind fun v6 => (some v6))) ((enumT known).take m) ([] : Ag) = some v ∧ AgK v ∧ agN v ≤ m ∧ ∀ k x : Int, (agG v k).count x = if 0 ≤ x ∧ x < m ∧ dec (pl known none x) k then 1 else 0 := by
    intro m
    induction m with
    | zero =>
      intro _
      exact ⟨[], by simp [foldT_nil], ⟨by simp, by simp⟩, Nat.le_refl _, fun k x => by rw [agG_nil, if_neg (by omega)]; rfl⟩
    | succ m ih =>
      intro hm
      obtain ⟨v, e1, k1, n1, g1⟩ := ih (by omega)
      have hx : known[m]? = some known[m] := List.getElem?_eq_getElem (by omega)
      have et : (enumT known).take (m + 1) = (enumT known).take m ++ [((m : Int), known[m])] := by
        rw [List.take_add_one, enumT_get, hx]; rfl
      have pm : pl known none (m : Int) = known[m] := by
        unfold pl
        rw [show ((m : Int)).toNat = m from by omega, hx]; rfl
      have stay : ∀ {k x : Int}, ¬ (x = (m : Int) ∧ dec known[m] k) → (if 0 ≤ x ∧ x < (m : Int) ∧ dec (pl known none x) k then 1 else 0 : Nat) = if 0 ≤ x ∧ x < ((m + 1 : Nat) : Int) ∧ dec (pl known none x) k then 1 else 0 := fun {k x} h => by
        by_cases d : x = (m : Int)
        · subst d
          rw [if_neg (by omega), if_neg fun z => h ⟨rfl, pm ▸ z.2.2⟩]
        · by_cases d2 : 0 ≤ x ∧ x < (m : Int) ∧ dec (pl known none x) k
          · rw [if_pos d2, if_pos ⟨d2.1, by omega, d2.2.2⟩]
          · rw [if_neg d2, if_neg fun z => d2 ⟨z.1, by omega, z.2.2⟩]
      have skip : ¬ (∃ k, dec known[m] k) → (((if known[m].isSome = true then ((opIx ((eO (eT2 D.str D.int)) known[m]) (D.int (0 : Int))).bind fun z4 => (neB z4 (D.str ("even" : Str)))) else some false).bind fun z11 => if z11 = true then (((opIx ((eO (eT2 D.str D.int)) known[m]) (D.int (1 : Int))).bind cI).bind fun z9 => (some (m : Int)).bind fun z10 => (sdT z9 z10 v).bind fun found1 => (some found1)) else (some v)).bind fun v6 => (some v6)) = some v := fun h => by
        generalize known[m] = o at h
        cases o with
        | none => rfl
        | some w =>
          rw [Option.isSome_some, if_pos rfl, ix0, Option.bind_some, neB_str, Option.bind_some]
          by_cases c : w.1 = "even"
          · rw [if_neg (by simp [c])]; rfl
          · exact (h ⟨w.2, w.1, rfl, c⟩).elim
      by_cases hd : ∃ k, dec known[m] k
      · obtain ⟨k0, s0, ew, ns⟩ := hd
        have sz := k1.sz (n := 100000) (by omega)
        refine ⟨insG k0 m v, ?_, insG_ok k1, by rw [insG_n]; omega, fun k x => ?_⟩
        · rw [et]
          refine fold_app e1 ?_
          dsimp only
          rw [ew, Option.isSome_some, if_pos rfl, ix0, Option.bind_some, neB_str, Option.bind_some, if_pos (by simp [ns]), ix1, Option.bind_some, Option.bind_some, sdT_ok sz]; rfl
        · rw [insG_get]
          by_cases c : k = k0
          · subst c
            rw [if_pos rfl, List.count_append, g1 k x]
            by_cases d : x = (m : Int)
            · subst d
              rw [if_neg (by omega), if_pos ⟨by omega, by omega, by rw [pm]; exact ⟨s0, ew, ns⟩⟩]
              simp
            · rw [stay fun z => d z.1]
              have : ¬ (m : Int) = x := fun z => d z.symm
              simp [this]
          · rw [if_neg c, g1 k x, stay]
            rintro ⟨_, s, e, _⟩
            rw [ew] at e; cases e; exact c rfl
      · refine ⟨v, ?_, k1, by omega, fun k x => ?_⟩
        · rw [et]; exact fold_app e1 (skip hd)
        · rw [g1 k x, stay fun z => hd ⟨k, z.2⟩]
  obtain ⟨v, e, k1, n1, g⟩ := main known.length (Nat.le_refl _)
  rw [List.take_of_length_le (by rw [enumT_len]; exact Nat.le_refl _)] at e
  refine ⟨v, ?_, k1, n1, g⟩
  unfold t_begun
  rw [lett_def, e]; rfl
theorem init_ok {nexts : List (List Int)} {known : List (Option Wrd)} (N : Net nexts known) : ∃ ah ag, t_Working__init_ nexts known = some ((), ⟨known, nexts.map fun xs => (xs.length : Int), ah, ag⟩) ∧ ah.length = known.length ∧ (∀ j : Int, 0 ≤ j → j < known.length → ∀ x, (pl ah [] j).count x = if 0 ≤ x ∧ x < known.length ∧ pl known none x = none then (pl nexts [] x).count j else 0) ∧
    AgK ag ∧ agN ag ≤ known.length ∧ ∀ k x : Int, (agG ag k).count x = if 0 ≤ x ∧ x < known.length ∧ dec (pl known none x) k then 1 else 0 := by
  obtain ⟨ah, e1, l1, g1⟩ := comers_ok N
  obtain ⟨ag, e2, k2, n2, g2⟩ := begun_ok N.le
  refine ⟨ah, ag, ?_, l1, g1, k2, n2, g2⟩
  unfold t_Working__init_
  rw [Option.bind_some, Option.bind_some, e1, Option.bind_some, e2]; rfl
theorem told_ok {s : TWorking} {i : Int} (h0 : 0 ≤ i) (h1 : i < s.words.length) (hk : AgK s.agenda) (hn : agN s.agenda ≤ 100000) (w : Wrd) : t_Working_told s i w = some ((), ⟨s.words.set i.toNat (some w), s.waits, s.ahead, insG w.2 i s.agenda⟩) := by
  unfold t_Working_told
  rw [Option.bind_some, Option.bind_some, put_ok h0 h1, Option.bind_some, Option.bind_some, Option.bind_some]
  dsimp only
  rw [sdT_ok (hk.sz hn)]; rfl
end Pr
set_option maxHeartbeats 1000000
namespace Pr
open PySem L2 Dl
/-! ### what holds while the words are worked out -/
abbrev val (n : Nat) (i : Int) : Prop := 0 ≤ i ∧ i < n
structure WInv (nexts : List (List Int)) (known : List (Option Wrd)) (ah : List (List Int)) (s : TWorking) (led bt : List Int) (m : Int) (pre : List Int) : Prop where
  lw : s.words.length = known.length
  lt : s.waits.length = known.length
  ea : s.ahead = ah
  kn : ∀ i, val known.length i → ∀ w, pl known none i = some w → pl s.words none i = some w
  un : ∀ i, val known.length i → pl known none i = none → ∀ w, pl s.words none i = some w → (w.1 = "won" ∨ w.1 = "lost") ∧ 1 ≤ w.2 ∧ w.2 ≤ m + 1
  ak : AgK s.agenda
  an : agN s.agenda + s.words.countP (·.isNone) ≤ 2 * known.length
  ag : ∀ k x, (agG s.agenda k).count x = if val known.length x ∧ dec (pl s.words none x) k ∧ x ∉ led ∧ x ∉ bt then 1 else 0
  b1 : bt.Nodup
  b2 : ∀ x ∈ bt, val known.length x ∧ dec (pl s.words none x) m ∧ x ∉ led
  ld : ∀ x ∈ led, val known.length x ∧ ∃ k, k ≤ m ∧ dec (pl s.words none x) k
  ge : ∀ x, val known.length x → ∀ k, dec (pl s.words none x) k → x ∉ led → m ≤ k
  m0 : 0 ≤ m
  no : ∀ i, val known.length i → pl known none i = none → pl s.words none i = none → (∀ j ∈ pl nexts [] i, j ∈ led → ∃ k, pl s.words none j = some (("won" : Str), k)) ∧ pl s.waits 0 i = ((pl nexts [] i).countP (fun j => decide (j ∉ led)) : Int) - (pre.count i : Int) ∧ 0 < pl s.waits 0 i
  wn : ∀ i, val known.length i → pl known none i = none → ∀ k, pl s.words none i = some (("won" : Str), k) → (∃ j ∈ pl nexts [] i, pl s.words none j = some (("lost" : Str), k - 1)) ∧ ∀ j ∈ pl nexts [] i, ∀ k', pl s.words none j = some (("lost" : Str), k') → k - 1 ≤ k'
  ls : ∀ i, val known.length i → pl known none i = none → ∀ k, pl s.words none i = some (("lost" : Str), k) → (∀ j ∈ pl nexts [] i, ∃ k', k' ≤ k - 1 ∧ pl s.words none j = some (("won" : Str), k')) ∧ ∃ j ∈ pl nexts [] i, pl s.words none j = some (("won" : Str), k - 1)
section
variable {nexts : List (List Int)} {known : List (Option Wrd)} {ah : List (List Int)} {s : TWorking} {led bt : List Int} {m : Int} {pre : List Int}
theorem Net.nx (N : Net nexts known) {i : Int} (h : val known.length i) : pl nexts [] i ∈ nexts ∧ (∀ j ∈ pl nexts [] i, val known.length j) ∧ (pl known none i = none → pl nexts [] i ≠ []) := by
  obtain ⟨_, e⟩ := pl_at (l := nexts) (d := []) h.1 (by rw [N.len]; exact h.2)
  have mem := List.mem_of_getElem? e
  refine ⟨mem, fun j hj => N.rg _ mem j hj, fun hk => N.ne i.toNat _ e ?_⟩
  obtain ⟨_, e2⟩ := pl_at (l := known) (d := none) h.1 h.2
  rw [e2, hk]
theorem dec_won {k : Int} {s : Str} (h : s = "won" ∨ s = "lost") : dec (some (s, k)) k := ⟨s, rfl, by rcases h with rfl | rfl <;> decide⟩
theorem dec_num {o : Option Wrd} {k k' : Int} {s : Str} (h : o = some (s, k)) (d : dec o k') : k' = k := by
  obtain ⟨s', e, _⟩ := d
  rw [h] at e; cases e; rfl
/-- a place gets its word -/
theorem WInv.tell (N : Net nexts known) (I : WInv nexts known ah s led bt m pre) {i : Int} {w : Str} (hv : val known.length i) (hk : pl known none i = none) (hn : pl s.words none i = none) (hw : w = "won" ∨ w = "lost") (hne : i ∉ led ∧ i ∉ bt)
    (hwon : w = "won" → (∃ j ∈ pl nexts [] i, pl s.words none j = some (("lost" : Str), m)) ∧ ∀ j ∈ pl nexts [] i, ∀ k', pl s.words none j = some (("lost" : Str), k') → m ≤ k')
    (hlost : w = "lost" → (∀ j ∈ pl nexts [] i, ∃ k', k' ≤ m ∧ pl s.words none j = some (("won" : Str), k')) ∧ ∃ j ∈ pl nexts [] i, pl s.words none j = some (("won" : Str), m)) {wts : List Int} (hwt : wts.length = known.length ∧ ∀ j, val known.length j → j ≠ i → pl wts 0 j = pl s.waits 0 j) :
    ∃ s', t_Working_told ⟨s.words, wts, s.ahead, s.agenda⟩ i (w, m + 1) = some ((), s') ∧ WInv nexts known ah s' led bt m (pre ++ [i]) ∧ (∀ j, val known.length j → ∀ x, pl s.words none j = some x → pl s'.words none j = some x) ∧ pl s'.words none i = some (w, m + 1) := by
  have hi : i < s.words.length := by rw [I.lw]; exact hv.2
  have an := I.an
  have le := N.le
  have e := told_ok (s := ⟨s.words, wts, s.ahead, s.agenda⟩) (i := i) hv.1 hi I.ak (by dsimp only; omega) (w, m + 1)
  refine ⟨_, e, ?_⟩
  dsimp only
  have gw : ∀ j, val known.length j → pl (s.words.set i.toNat (some (w, m + 1))) none j = if j = i then some (w, m + 1) else pl s.words none j := fun j hj => pl_set hv.1 hi hj.1
  have old : ∀ j, val known.length j → ∀ x, pl s.words none j = some x → pl (s.words.set i.toNat (some (w, m + 1))) none j = some x := fun j hj x hx => by
    rw [gw j hj, if_neg fun z => by rw [z, hn] at hx; cases hx]; exact hx
  have oldd : ∀ j, val known.length j → ∀ k, dec (pl s.words none j) k → dec (pl (s.words.set i.toNat (some (w, m + 1))) none j) k := fun j hj k ⟨x, hx, y⟩ => ⟨x, old j hj _ hx, y⟩
  have back : ∀ j, val known.length j → j ≠ i → pl (s.words.set i.toNat (some (w, m + 1))) none j = pl s.words none j := fun j hj z => by rw [gw j hj, if_neg z]
  refine ⟨?_, old, by rw [gw i hv, if_pos rfl]⟩
  refine ⟨by rw [List.length_set]; exact I.lw, hwt.1, I.ea, fun j hj x hx => ?_, fun j hj hkj x hx => ?_, insG_ok I.ak, ?_, fun k x => ?_, I.b1, fun x hx => ?_, fun x hx => ?_, fun x hx k hd hl => ?_, I.m0, fun j hj hkj hnj => ?_, fun j hj hkj k hx => ?_, fun j hj hkj k hx => ?_⟩
  · exact old j hj x (I.kn j hj x hx)
  · rw [gw j hj] at hx
    by_cases c : j = i
    · rw [if_pos c] at hx; cases hx
      have := I.m0
      exact ⟨hw, by show 1 ≤ m + 1; omega, Int.le_refl _⟩
    · rw [if_neg c] at hx; exact I.un j hj hkj x hx
  · rw [insG_n]
    have hi' : i.toNat < s.words.length := by have := hv.1; omega
    have hx : s.words[i.toNat] = none := by
      have := (pl_at (l := s.words) (d := none) hv.1 hi).2
      rw [hn, List.getElem?_eq_getElem hi'] at this
      exact Option.some.inj this
    rw [List.countP_set hi', hx]
    have pos : 0 < s.words.countP (·.isNone) := List.countP_pos_iff.mpr ⟨none, by rw [← hx]; exact List.getElem_mem _, rfl⟩
    simp only [Option.isNone_none, Option.isNone_some, if_true]
    simp
    omega
  · rw [insG_get]
    by_cases cx : x = i
    · subst cx
      have z0 : (agG s.agenda k).count x = 0 := by
        rw [I.ag k x, if_neg fun z => ?_]
        obtain ⟨_, ⟨_, z, _⟩, _⟩ := z
        rw [hn] at z; cases z
      by_cases ck : k = m + 1
      · subst ck
        rw [if_pos rfl, List.count_append, z0, if_pos ⟨hv, by rw [gw x hv, if_pos rfl]; exact dec_won hw, hne.1, hne.2⟩]
        simp
      · rw [if_neg ck, z0, if_neg fun z => ?_]
        obtain ⟨_, z, _⟩ := z
        rw [gw x hv, if_pos rfl] at z
        exact ck (dec_num rfl z)
    · have hc : (if k = m + 1 then agG s.agenda (m + 1) ++ [i] else agG s.agenda k).count x = (agG s.agenda k).count x := by
        have ni : ¬ i = x := fun z => cx z.symm
        by_cases ck : k = m + 1
        · subst ck; rw [if_pos rfl, List.count_append]; simp [ni]
        · rw [if_neg ck]
      rw [hc, I.ag k x]
      by_cases vx : val known.length x
      · rw [back x vx cx]
      · rw [if_neg fun z => vx z.1, if_neg fun z => vx z.1]
  · obtain ⟨v1, v2, v3⟩ := I.b2 x hx
    exact ⟨v1, oldd x v1 m v2, v3⟩
  · obtain ⟨v1, k, v2, v3⟩ := I.ld x hx
    exact ⟨v1, k, v2, oldd x v1 k v3⟩
  · by_cases cx : x = i
    · subst cx
      rw [gw x hx, if_pos rfl] at hd
      have := dec_num rfl hd
      omega
    · rw [back x hx cx] at hd; exact I.ge x hx k hd hl
  · have cj : j ≠ i := fun z => by rw [z, gw i hv, if_pos rfl] at hnj; cases hnj
    rw [back j hj cj] at hnj
    obtain ⟨q1, q2, q3⟩ := I.no j hj hkj hnj
    rw [hwt.2 j hj cj]
    have ni : ¬ i = j := fun z => cj z.symm
    refine ⟨fun y hy hl => ?_, by rw [q2, List.count_append]; simp [ni], q3⟩
    obtain ⟨k, hk'⟩ := q1 y hy hl
    exact ⟨k, old y ((N.nx hj).2.1 y hy) _ hk'⟩
  · rw [gw j hj] at hx
    by_cases cj : j = i
    · subst cj
      rw [if_pos rfl] at hx; cases hx
      obtain ⟨⟨y, hy, hy2⟩, h2⟩ := hwon rfl
      have vy := (N.nx hj).2.1
      refine ⟨⟨y, hy, by rw [show m + 1 - 1 = m by omega]; exact old y (vy y hy) _ hy2⟩, fun y hy k' h => ?_⟩
      rw [gw y (vy y hy)] at h
      by_cases c : y = j
      · rw [if_pos c] at h; cases h
      · rw [if_neg c] at h; have := h2 y hy k' h; omega
    · rw [if_neg cj] at hx
      obtain ⟨⟨y, hy, hy2⟩, h2⟩ := I.wn j hj hkj k hx
      have vy := (N.nx hj).2.1
      refine ⟨⟨y, hy, old y (vy y hy) _ hy2⟩, fun y hy k' h => ?_⟩
      rw [gw y (vy y hy)] at h
      by_cases c : y = i
      · rw [if_pos c] at h; cases h
        have := (I.un j hj hkj _ hx).2.2
        dsimp only at this
        omega
      · rw [if_neg c] at h; exact h2 y hy k' h
  · rw [gw j hj] at hx
    have vy := (N.nx hj).2.1
    by_cases cj : j = i
    · subst cj
      rw [if_pos rfl] at hx; cases hx
      obtain ⟨h1, y, hy, hy2⟩ := hlost rfl
      refine ⟨fun y hy => ?_, y, hy, by rw [show m + 1 - 1 = m by omega]; exact old y (vy y hy) _ hy2⟩
      obtain ⟨k', a, b⟩ := h1 y hy
      exact ⟨k', by omega, old y (vy y hy) _ b⟩
    · rw [if_neg cj] at hx
      obtain ⟨h1, y, hy, hy2⟩ := I.ls j hj hkj k hx
      refine ⟨fun y hy => ?_, y, hy, old y (vy y hy) _ hy2⟩
      obtain ⟨k', a, b⟩ := h1 y hy
      exact ⟨k', a, old y (vy y hy) _ b⟩
end
end Pr
set_option maxHeartbeats 1000000
namespace Pr
open PySem L2 Dl
/-! ### what follows from a place's word -/
abbrev ledB (pair : Wrd) : TWorking → Int → Option TWorking := fun v8 one => (((((atI v8.words one).bind fun z14 => some z14.isNone).bind fun z15 => if z15 = true then (eqB (D.str pair.1) (D.str ("lost" : Str))) else some false).bind fun z47 => if z47 = true then (bind2 ((((cI (D.int pair.2)).bind fun z17 => some (z17 + (1 : Int))).bind fun z19 => (some (("won" : Str), z19))).bind fun z20 => (t_Working_told v8 one z20)) (fun _ (k21 : TWorking) => (some k21))) else ((((atI v8.words one).bind fun z25 => some z25.isNone).bind fun z46 => if z46 = true then (((atI v8.waits one).bind fun z30 => some (z30 - (1 : Int))).bind fun z44 => (some one).bind fun z45 => (putLT v8.waits z45 z44).bind fun waits => ((((atI (({ v8 with waits := waits } : TWorking).waits) one).bind fun z35 => some (decide (z35 = (0 : Int)))).bind fun z43 => if z43 = true then (bind2 ((((cI (D.int pair.2)).bind fun z38 => some (z38 + (1 : Int))).bind fun z40 => (some (("lost" : Str), z40))).bind fun z41 => (t_Working_told ({ v8 with waits := waits } : TWorking) one z41)) (fun _ (k42 : TWorking) => (some k42))) else (some ({ v8 with waits := waits } : TWorking))).bind fun v37 => (some v37))) else (some v8)).bind fun v26 => (some v26))).bind fun v16 => (some v16))
section
variable {nexts : List (List Int)} {known : List (Option Wrd)} {ah : List (List Int)} {s : TWorking} {led bt : List Int} {m : Int} {pre : List Int}
theorem WInv.more {i : Int} (I : WInv nexts known ah s led bt m pre) (h : pl s.words none i ≠ none) : WInv nexts known ah s led bt m (pre ++ [i]) :=
  ⟨I.lw, I.lt, I.ea, I.kn, I.un, I.ak, I.an, I.ag, I.b1, I.b2, I.ld, I.ge, I.m0, (fun j hj hkj hnj => by
      obtain ⟨q1, q2, q3⟩ := I.no j hj hkj hnj
      have ni : ¬ i = j := fun z => h (by rw [z]; exact hnj)
      exact ⟨q1, by rw [q2, List.count_append]; simp [ni], q3⟩), I.wn, I.ls⟩
theorem dec_lost {k : Int} : dec (some (("lost" : Str), k)) k := ⟨"lost", rfl, by decide⟩
theorem led_step (N : Net nexts known) {a : Int} {w : Str} (I : WInv nexts known ah s led (a :: bt) m pre) (ha : pl s.words none a = some (w, m)) (hw : w = "won" ∨ w = "lost") {i : Int} (hv : val known.length i) (hk : pl known none i = none) (hc : (pre ++ [i]).count i ≤ (pl nexts [] i).count a) :
    ∃ s', ledB (w, m) s i = some s' ∧ WInv nexts known ah s' led (a :: bt) m (pre ++ [i]) ∧ pl s'.words none a = some (w, m) ∧ (∀ j, val known.length j → pl s.words none j ≠ none → pl s'.words none j ≠ none) ∧ (w = "lost" → pl s'.words none i ≠ none) := by
  have va := (I.b2 a List.mem_cons_self).1
  have nla := (I.b2 a List.mem_cons_self).2.2
  have hi1 : i < s.words.length := by rw [I.lw]; exact hv.2
  have hi2 : i < s.waits.length := by rw [I.lt]; exact hv.2
  obtain ⟨e1, _⟩ := pl_at (l := s.words) (d := none) hv.1 hi1
  obtain ⟨e2, _⟩ := pl_at (l := s.waits) (d := 0) hv.1 hi2
  have mem : a ∈ pl nexts [] i := by
    have : 0 < (pl nexts [] i).count a := by
      rw [List.count_append] at hc
      simp at hc
      omega
    exact List.count_pos_iff.mp this
  have vn := (N.nx hv).2.1
  cases q : pl s.words none i with
  | some x =>
    refine ⟨s, ?_, I.more (by rw [q]; simp), ha, fun _ _ h => h, fun _ => by rw [q]; simp⟩
    unfold ledB
    rw [e1, q]; rfl
  | none =>
    have out : i ∉ led ∧ i ∉ a :: bt := ⟨(fun z => by
      obtain ⟨_, k, _, x, y, _⟩ := I.ld i z
      rw [q] at y; cases y), (fun z => by
      obtain ⟨_, ⟨x, y, _⟩, _⟩ := I.b2 i z
      rw [q] at y; cases y)⟩
    have nia : i ≠ a := fun z => by rw [z, ha] at q; cases q
    obtain ⟨n1, n2, n3⟩ := I.no i hv hk q
    have keep : ∀ {s' : TWorking} {p : List Int}, WInv nexts known ah s' led (a :: bt) m p → True := fun _ => trivial
    rcases hw with rfl | rfl
    · -- won
      have put := put_ok (l := s.waits) hv.1 hi2 (pl s.waits 0 i - 1)
      have lw : (s.waits.set i.toNat (pl s.waits 0 i - 1)).length = known.length := by rw [List.length_set]; exact I.lt
      have gw : ∀ j, val known.length j → pl (s.waits.set i.toNat (pl s.waits 0 i - 1)) 0 j = if j = i then pl s.waits 0 i - 1 else pl s.waits 0 j := fun j hj => pl_set hv.1 hi2 hj.1
      obtain ⟨e3, _⟩ := pl_at (l := s.waits.set i.toNat (pl s.waits 0 i - 1)) (d := 0) hv.1 (by rw [lw]; exact hv.2)
      rw [gw i hv, if_pos rfl] at e3
      have head : ∀ r, (if decide (pl s.waits 0 i - 1 = 0) = true then (bind2 ((((cI (D.int m)).bind fun z38 => some (z38 + (1 : Int))).bind fun z40 => (some (("lost" : Str), z40))).bind fun z41 => (t_Working_told ({ s with waits := s.waits.set i.toNat (pl s.waits 0 i - 1) } : TWorking) i z41)) (fun _ (k42 : TWorking) => (some k42))) else (some ({ s with waits := s.waits.set i.toNat (pl s.waits 0 i - 1) } : TWorking))) = some r → ledB ("won", m) s i = some r := fun r h => by
        unfold ledB
        rw [e1, q, Option.bind_some, Option.bind_some, Option.isNone_none, if_pos rfl, eqB_str, Option.bind_some, if_neg (show ¬ decide (("won" : Str) = "lost") = true from by decide), Option.bind_some, if_pos rfl, e2, Option.bind_some, Option.bind_some, Option.bind_some, put, Option.bind_some]
        dsimp only
        rw [e3, Option.bind_some, Option.bind_some, h]; rfl
      by_cases z : pl s.waits 0 i - 1 = 0
      · -- all are won
        have full : ∀ j ∈ pl nexts [] i, j ∉ led → j = a := fun j hj hl => by
          -- as many as a
          apply Classical.byContradiction
          intro ne
          have h1 : (pl nexts [] i).countP (fun j => decide (j ∉ led)) ≤ (pl nexts [] i).count a := by
            rw [List.count_append] at hc
            simp at hc
            omega
          have h2 : (pl nexts [] i).count a + 1 ≤ (pl nexts [] i).countP (fun j => decide (j ∉ led)) := by
            have gen : ∀ {l : List Int}, j ∈ l → l.count a + 1 ≤ l.countP (fun j => decide (j ∉ led)) := by
              intro l
              induction l with
              | nil => intro h; cases h
              | cons y l ih =>
                intro h
                have mono : ∀ l : List Int, l.count a ≤ l.countP (fun j => decide (j ∉ led)) := fun l => by
                  unfold List.count
                  exact List.countP_mono_left fun x _ hx => by
                    have : x = a := by simpa using hx
                    simp [this, nla]
                rw [List.count_cons, List.countP_cons]
                rcases List.mem_cons.mp h with rfl | h
                · have := mono l
                  have e1 : (j == a) = false := by simpa using ne
                  have e2 : decide (j ∉ led) = true := by simpa using hl
                  rw [e1, e2, if_neg Bool.false_ne_true, if_pos rfl]; omega
                · have := ih h
                  by_cases ya : y = a
                  · have e1 : (y == a) = true := by simpa using ya
                    have e2 : decide (y ∉ led) = true := by rw [ya]; simpa using nla
                    rw [e1, e2, if_pos rfl]; omega
                  · have e1 : (y == a) = false := by simpa using ya
                    rw [e1, if_neg Bool.false_ne_true]
                    split <;> omega
            exact gen hj
          omega
        have hlost : (∀ j ∈ pl nexts [] i, ∃ k', k' ≤ m ∧ pl s.words none j = some (("won" : Str), k')) ∧ ∃ j ∈ pl nexts [] i, pl s.words none j = some (("won" : Str), m) := by
          refine ⟨fun j hj => ?_, a, mem, ha⟩
          by_cases hl : j ∈ led
          · obtain ⟨k, hk'⟩ := n1 j hj hl
            obtain ⟨_, k2, le2, d2⟩ := I.ld j hl
            have := dec_num hk' d2
            exact ⟨k, by omega, hk'⟩
          · have := full j hj hl
            exact ⟨m, Int.le_refl _, by rw [this]; exact ha⟩
        obtain ⟨s', t1, t2, t3, t4⟩ := I.tell N hv hk q (w := "lost") (.inr rfl) out (fun z => absurd z (by decide)) (fun _ => hlost) (wts := s.waits.set i.toNat (pl s.waits 0 i - 1)) ⟨lw, fun j hj ne => by rw [gw j hj, if_neg ne]⟩
        refine ⟨s', head s' ?_, t2, ?_, (fun j hj h => by
          cases z : pl s.words none j with
          | none => exact (h z).elim
          | some x => rw [t3 j hj x z]; simp), fun z => absurd z (by decide)⟩
        · rw [if_pos (by simpa using z)]
          show bind2 (t_Working_told ({ s with waits := s.waits.set i.toNat (pl s.waits 0 i - 1) } : TWorking) i (("lost" : Str), m + 1)) _ = _
          unfold bind2
          rw [show ({ s with waits := s.waits.set i.toNat (pl s.waits 0 i - 1) } : TWorking) = ⟨s.words, s.waits.set i.toNat (pl s.waits 0 i - 1), s.ahead, s.agenda⟩ from rfl, t1]; rfl
        · exact t3 a va _ ha
      · refine ⟨{ s with waits := s.waits.set i.toNat (pl s.waits 0 i - 1) }, head _ (by rw [if_neg (by simpa using z)]), ?_, ha, fun _ _ h => h, fun z => absurd z (by decide)⟩
        refine ⟨I.lw, lw, I.ea, I.kn, I.un, I.ak, I.an, I.ag, I.b1, I.b2, I.ld, I.ge, I.m0, (fun j hj hkj hnj => ?_), I.wn, I.ls⟩
        obtain ⟨q1, q2, q3⟩ := I.no j hj hkj hnj
        refine ⟨q1, ?_, ?_⟩
        · dsimp only
          rw [gw j hj, List.count_append]
          by_cases c : j = i
          · subst c; rw [if_pos rfl, q2]; simp; omega
          · have ni : ¬ i = j := fun z => c z.symm
            rw [if_neg c, q2]; simp [ni]
        · dsimp only
          rw [gw j hj]
          by_cases c : j = i
          · subst c; rw [if_pos rfl]; omega
          · rw [if_neg c]; exact q3
    · -- lost
      have hwon : (∃ j ∈ pl nexts [] i, pl s.words none j = some (("lost" : Str), m)) ∧ ∀ j ∈ pl nexts [] i, ∀ k', pl s.words none j = some (("lost" : Str), k') → m ≤ k' := by
        refine ⟨⟨a, mem, ha⟩, fun j hj k' h => ?_⟩
        by_cases hl : j ∈ led
        · obtain ⟨k, hk'⟩ := n1 j hj hl
          rw [h] at hk'; cases hk'
        · exact I.ge j (vn j hj) k' (by rw [h]; exact dec_lost) hl
      obtain ⟨s', t1, t2, t3, t4⟩ := I.tell N hv hk q (w := "won") (.inl rfl) out (fun _ => hwon) (fun z => absurd z (by decide)) (wts := s.waits) ⟨I.lt, fun _ _ _ => rfl⟩
      refine ⟨s', ?_, t2, ?_, (fun j hj h => by
          cases z : pl s.words none j with
          | none => exact (h z).elim
          | some x => rw [t3 j hj x z]; simp), fun _ => by rw [t4]; simp⟩
      · unfold ledB
        rw [e1, q, Option.bind_some, Option.bind_some, Option.isNone_none, if_pos rfl, eqB_str, Option.bind_some, if_pos (show decide (("lost" : Str) = "lost") = true from by decide)]
        show (bind2 (t_Working_told s i (("won" : Str), m + 1)) _).bind _ = _
        unfold bind2
        rw [show s = ⟨s.words, s.waits, s.ahead, s.agenda⟩ from rfl, t1]; rfl
      · exact t3 a va _ ha
theorem fold_suf {α σ : Type} {B : σ → α → Option σ} (P : List α → σ → Prop) {ys : List α} (hb : ∀ pre x suf v, pre ++ x :: suf = ys → P pre v → ∃ v', B v x = some v' ∧ P (pre ++ [x]) v') : ∀ (suf pre : List α) (v : σ), pre ++ suf = ys → P pre v → ∃ v', foldT B suf v = some v' ∧ P ys v'
  | [], pre, v, e, h => by rw [List.append_nil] at e; subst e; exact ⟨v, rfl, h⟩
  | x :: suf, pre, v, e, h => by
    obtain ⟨v1, e1, h1⟩ := hb pre x suf v e h
    obtain ⟨v2, e2, h2⟩ := fold_suf P hb suf (pre ++ [x]) v1 (by rw [List.append_assoc]; exact e) h1
    exact ⟨v2, by rw [foldT_cons, e1]; exact e2, h2⟩
/-- who leads where -/
abbrev Led (nexts : List (List Int)) (known : List (Option Wrd)) (ah : List (List Int)) : Prop := ah.length = known.length ∧ ∀ j : Int, 0 ≤ j → j < known.length → ∀ x, (pl ah [] j).count x = if 0 ≤ x ∧ x < known.length ∧ pl known none x = none then (pl nexts [] x).count j else 0
theorem led_ok (N : Net nexts known) (A : Led nexts known ah) {a : Int} (I : WInv nexts known ah s led (a :: bt) m []) : ∃ s', t_Working_led s a = some ((), s') ∧ WInv nexts known ah s' (a :: led) bt m [] := by
  obtain ⟨va, ⟨w, ha, hev⟩, nla⟩ := I.b2 a List.mem_cons_self
  have hw : w = "won" ∨ w = "lost" := by
    cases q : pl known none a with
    | none => exact (I.un a va q _ ha).1
    | some x =>
      have e := I.kn a va x q
      rw [ha] at e; cases e
      obtain ⟨_, e2⟩ := pl_at (l := known) (d := none) va.1 va.2
      rw [q] at e2
      rcases (N.kw _ (List.mem_of_getElem? e2)).1 with h | h | h
      · exact .inl h
      · exact .inr h
      · exact (hev h).elim
  obtain ⟨e1, _⟩ := pl_at (l := s.words) (d := none) va.1 (by rw [I.lw]; exact va.2)
  obtain ⟨e2, _⟩ := pl_at (l := s.ahead) (d := []) va.1 (by rw [I.ea, A.1]; exact va.2)
  rw [I.ea] at e2
  obtain ⟨s', f1, J, ha', hl⟩ := fold_suf (P := fun pre s => WInv nexts known ah s led (a :: bt) m pre ∧ pl s.words none a = some (w, m) ∧ (w = "lost" → ∀ i ∈ pre, val known.length i ∧ pl s.words none i ≠ none)) (B := ledB (w, m)) (ys := pl ah [] a) (by
    intro pre x suf v e ⟨J, hx, hl⟩
    have cx : 0 < (pl ah [] a).count x := List.count_pos_iff.mpr (by rw [← e]; exact List.mem_append_right _ List.mem_cons_self)
    have ce := A.2 a va.1 va.2 x
    by_cases c : 0 ≤ x ∧ x < known.length ∧ pl known none x = none
    · rw [if_pos c] at ce
      have hc : (pre ++ [x]).count x ≤ (pl nexts [] x).count a := by
        rw [← ce, ← e, List.count_append, List.count_append, List.count_cons, List.count_cons]
        simp
      obtain ⟨v', g1, g2, g3, g4, g5⟩ := led_step N J hx hw ⟨c.1, c.2.1⟩ c.2.2 hc
      refine ⟨v', g1, g2, g3, fun z i hi => ?_⟩
      rcases List.mem_append.mp hi with hi | hi
      · exact ⟨(hl z i hi).1, g4 i (hl z i hi).1 (hl z i hi).2⟩
      · rw [List.mem_singleton.mp hi]; exact ⟨⟨c.1, c.2.1⟩, g5 z⟩
    · rw [if_neg c] at ce; omega) (pl ah [] a) [] s rfl ⟨I, ha, fun _ i hi => nomatch hi⟩
  refine ⟨s', ?_, ?_⟩
  · unfold t_Working_led
    rw [e1, Option.bind_some, ha, Option.bind_some, I.ea, e2, Option.bind_some]
    rw [show (foldT _ (pl ah [] a) s : Option TWorking) = some s' from f1]; rfl
  · have nb := List.nodup_cons.mp J.b1
    have full : ∀ i, val known.length i → pl known none i = none → (pl ah [] a).count i = (pl nexts [] i).count a := fun i hi hk => by rw [A.2 a va.1 va.2 i, if_pos ⟨hi.1, hi.2, hk⟩]
    refine ⟨J.lw, J.lt, J.ea, J.kn, J.un, J.ak, J.an, fun k x => ?_, nb.2, fun x hx => ?_, fun x hx => ?_, fun x hx k hd hl' => J.ge x hx k hd fun z => hl' (List.mem_cons_of_mem _ z), J.m0, fun i hi hk hn => ?_, J.wn, J.ls⟩
    · rw [J.ag k x]
      have e : (x ∉ led ∧ x ∉ a :: bt) ↔ (x ∉ a :: led ∧ x ∉ bt) := by simp only [List.mem_cons, not_or]; exact ⟨fun ⟨p, q, r⟩ => ⟨⟨q, p⟩, r⟩, fun ⟨⟨q, p⟩, r⟩ => ⟨p, q, r⟩⟩
      by_cases c : val known.length x ∧ dec (pl s'.words none x) k ∧ x ∉ led ∧ x ∉ a :: bt
      · rw [if_pos c, if_pos ⟨c.1, c.2.1, e.mp c.2.2⟩]
      · rw [if_neg c, if_neg fun z => c ⟨z.1, z.2.1, e.mpr z.2.2⟩]
    · obtain ⟨v1, v2, v3⟩ := J.b2 x (List.mem_cons_of_mem _ hx)
      exact ⟨v1, v2, fun z => by
        rcases List.mem_cons.mp z with z | z
        · exact nb.1 (z ▸ hx)
        · exact v3 z⟩
    · rcases List.mem_cons.mp hx with rfl | hx
      · exact ⟨va, m, Int.le_refl _, w, ha', hev⟩
      · exact J.ld x hx
    · obtain ⟨q1, q2, q3⟩ := J.no i hi hk hn
      rw [full i hi hk] at q2
      have nin : w = "lost" → a ∉ pl nexts [] i := fun z h => by
        have : 0 < (pl ah [] a).count i := by rw [full i hi hk]; exact List.count_pos_iff.mpr h
        exact (hl z i (List.count_pos_iff.mp this)).2 hn
      refine ⟨fun j hj hjl => ?_, ?_, q3⟩
      · rcases List.mem_cons.mp hjl with rfl | hjl
        · rcases hw with rfl | rfl
          · exact ⟨m, ha'⟩
          · exact (nin rfl hj).elim
        · exact q1 j hj hjl
      · rw [q2, List.count_nil]
        have gen : ∀ l : List Int, l.countP (fun j => decide (j ∉ led)) = l.countP (fun j => decide (j ∉ a :: led)) + l.count a := by
          intro l
          induction l with
          | nil => rfl
          | cons y l ih =>
            rw [List.countP_cons, List.countP_cons, List.count_cons, ih]
            by_cases ya : y = a
            · subst ya
              have e1 : decide (y ∉ led) = true := by simpa using nla
              have e2 : decide (y ∉ y :: led) = false := by simp
              have e3 : (y == y) = true := by simp
              rw [e1, e2, e3, if_pos rfl, if_neg Bool.false_ne_true]; omega
            · have e3 : (y == a) = false := by simpa using ya
              have e2 : decide (y ∉ a :: led) = decide (y ∉ led) := decide_eq_decide.mpr (by simp [ya])
              rw [e2, e3, if_neg Bool.false_ne_true]; omega
        rw [gen]
        omega
end
end Pr
set_option maxHeartbeats 1000000
namespace Pr
open PySem L2 Dl
section
variable {nexts : List (List Int)} {known : List (Option Wrd)} {ah : List (List Int)} {s : TWorking} {led bt : List Int} {m : Int}
theorem WInv.begin (N : Net nexts known) {ag : Ag} (hk : AgK ag) (hn : agN ag ≤ known.length) (hg : ∀ k x : Int, (agG ag k).count x = if 0 ≤ x ∧ x < known.length ∧ dec (pl known none x) k then 1 else 0) : WInv nexts known ah ⟨known, nexts.map fun xs => (xs.length : Int), ah, ag⟩ [] [] 0 [] := by
  have c1 : agN ag + known.countP (·.isNone) ≤ 2 * known.length := by
    have := List.countP_le_length (p := (·.isNone)) (l := known)
    omega
  refine ⟨rfl, by rw [List.length_map]; exact N.len, rfl, fun i _ w h => h, fun i _ h w h2 => ?_, hk, c1, fun k x => ?_, List.nodup_nil, (fun x h => nomatch h), (fun x h => nomatch h), fun x hx k hd _ => ?_, Int.le_refl _, fun i hi hkn _ => ?_, fun i hi h k h2 => ?_, fun i hi h k h2 => ?_⟩
  · rw [h] at h2; cases h2
  · rw [hg k x]
    by_cases c : 0 ≤ x ∧ x < known.length ∧ dec (pl known none x) k
    · rw [if_pos c, if_pos ⟨⟨c.1, c.2.1⟩, c.2.2, by simp, by simp⟩]
    · rw [if_neg c, if_neg fun z => c ⟨z.1.1, z.1.2, z.2.1⟩]
  · obtain ⟨w, e, _⟩ := hd
    obtain ⟨_, e2⟩ := pl_at (l := known) (d := none) hx.1 hx.2
    dsimp only at e
    rw [e] at e2
    exact (N.kw _ (List.mem_of_getElem? e2)).2
  · have e : pl (nexts.map fun xs => (xs.length : Int)) 0 i = ((pl nexts [] i).length : Int) := by
      obtain ⟨_, e2⟩ := pl_at (l := nexts) (d := []) hi.1 (by rw [N.len]; exact hi.2)
      unfold pl
      rw [List.getElem?_map, e2]
      unfold pl
      rw [e2]; rfl
    have ne := (N.nx hi).2.2 hkn
    have e3 : (pl nexts [] i).countP (fun j => decide (j ∉ ([] : List Int))) = (pl nexts [] i).length := List.countP_eq_length.mpr fun _ _ => by simp
    refine ⟨(fun j _ h => nomatch h), ?_, ?_⟩
    · dsimp only; rw [e, e3]; simp
    · dsimp only; rw [e]
      cases q : pl nexts [] i with
      | nil => exact (ne q).elim
      | cons y ys => rw [List.length_cons]; omega
  · dsimp only at h2; rw [h] at h2; cases h2
  · dsimp only at h2; rw [h] at h2; cases h2
/-- the least number is taken -/
theorem WInv.take (I : WInv nexts known ah s led [] m []) {k : Int} (hk : k ∈ s.agenda.map (·.1)) (hmin : ∀ j ∈ s.agenda.map (·.1), k ≤ j) : WInv nexts known ah { s with agenda := delG k s.agenda } led (agG s.agenda k) k [] ∧ agG s.agenda k ≠ [] := by
  have cnt := I.ag
  have mem : ∀ {x j : Int}, x ∈ agG s.agenda j ↔ val known.length x ∧ dec (pl s.words none x) j ∧ x ∉ led := fun {x j} => by
    rw [← List.count_pos_iff, cnt j x]
    constructor
    · intro h
      by_cases c : val known.length x ∧ dec (pl s.words none x) j ∧ x ∉ led ∧ x ∉ ([] : List Int)
      · exact ⟨c.1, c.2.1, c.2.2.1⟩
      · rw [if_neg c] at h; omega
    · intro h; rw [if_pos ⟨h.1, h.2.1, h.2.2, by simp⟩]; decide
  have ne := agG_ne I.ak hk
  have mk : m ≤ k := by
    cases q : agG s.agenda k with
    | nil => exact (ne q).elim
    | cons y ys =>
      obtain ⟨v1, v2, v3⟩ := mem.mp (show y ∈ agG s.agenda k by rw [q]; exact List.mem_cons_self)
      exact I.ge y v1 k v2 v3
  have dn := delG_n (k := k) I.ak
  have an := I.an
  have m0 := I.m0
  refine ⟨⟨I.lw, I.lt, I.ea, I.kn, fun i hi h w h2 => ?_, delG_ok I.ak, by dsimp only; omega, fun j x => ?_, ?_, fun x hx => ?_, fun x hx => ?_, fun x hx j hd hl => ?_, by omega, I.no, I.wn, I.ls⟩, ne⟩
  · obtain ⟨q1, q2, q3⟩ := I.un i hi h w h2
    exact ⟨q1, q2, by omega⟩
  · dsimp only
    rw [delG_get]
    by_cases c : j = k
    · subst c
      rw [if_pos rfl, if_neg fun z => z.2.2.2 (mem.mpr ⟨z.1, z.2.1, z.2.2.1⟩)]
      rfl
    · rw [if_neg c, cnt j x]
      by_cases d : val known.length x ∧ dec (pl s.words none x) j ∧ x ∉ led ∧ x ∉ ([] : List Int)
      · obtain ⟨w1, e1, _⟩ := d.2.1
        rw [if_pos d, if_pos ⟨d.1, d.2.1, d.2.2.1, fun z => c (dec_num e1 (mem.mp z).2.1).symm⟩]
      · rw [if_neg d, if_neg fun z => d ⟨z.1, z.2.1, z.2.2.1, by simp⟩]
  · rw [List.nodup_iff_count]
    intro x
    rw [cnt k x]
    split <;> decide
  · exact mem.mp hx
  · obtain ⟨v1, j, v2, v3⟩ := I.ld x hx
    exact ⟨v1, j, by omega, v3⟩
  · have : x ∈ agG s.agenda j := mem.mpr ⟨hx, hd, hl⟩
    exact hmin j (agG_mem fun z => by rw [z] at this; cases this)
theorem batch_ok (N : Net nexts known) (A : Led nexts known ah) : ∀ (bt led : List Int) (s : TWorking), WInv nexts known ah s led bt m [] → led.Nodup →
    ∃ s' led', foldT (fun v2 at_ => (bind2 ((cI (D.int at_)).bind fun z3 => (t_Working_led v2 z3)) (fun _ (k4 : TWorking) => (some k4)))) bt s = some s' ∧ WInv nexts known ah s' led' [] m [] ∧ led'.Nodup ∧ led'.length = led.length + bt.length
  | [], led, s, I, nd => ⟨s, led, rfl, I, nd, rfl⟩
  | a :: bt, led, s, I, nd => by
    obtain ⟨s1, e1, I1⟩ := led_ok N A I
    obtain ⟨s2, led2, e2, I2, n2, l2⟩ := batch_ok N A bt (a :: led) s1 I1 (List.nodup_cons.mpr ⟨(I.b2 a List.mem_cons_self).2.2, nd⟩)
    refine ⟨s2, led2, ?_, I2, n2, by rw [l2, List.length_cons, List.length_cons]; omega⟩
    rw [foldT_cons]
    show (bind2 (t_Working_led s a) _).bind _ = _
    rw [e1]
    exact e2
abbrev doneB : TWorking → Option TWorking := fun v1 => (((minT (v1.agenda.map fun p => p.1)).bind fun z6 => (popNT z6 v1.agenda).bind fun z7 => foldT (fun v2 at_ => (bind2 ((cI (D.int at_)).bind fun z3 => (t_Working_led v2 z3)) (fun _ (k4 : TWorking) => (some k4)))) z7.1 ((fun (q : (List (Int × List Int))) => ({ v1 with agenda := q } : TWorking)) z7.2)).bind fun v5 => (some v5))
theorem loop_ok (N : Net nexts known) (A : Led nexts known ah) : ∀ (f : Nat) (s : TWorking) (led : List Int) (m : Int), WInv nexts known ah s led [] m [] → led.Nodup → known.length < f + led.length →
    ∃ s' led' m', whN (fun (v1 : TWorking) => (some (!v1.agenda.isEmpty))) doneB f s = some s' ∧ WInv nexts known ah s' led' [] m' [] ∧ s'.agenda = []
  | 0, s, led, m, I, nd, hf => by
    have : led.length ≤ (rng known.length).length := length_sub nd fun x hx => mem_rng.mpr (I.ld x hx).1
    rw [rng_len] at this
    omega
  | f + 1, s, led, m, I, nd, hf => by
    cases q : s.agenda with
    | nil =>
      refine ⟨s, led, m, ?_, I, q⟩
      unfold whN
      rw [q]; rfl
    | cons p r =>
      have hne : s.agenda.map (·.1) ≠ [] := by rw [q]; simp
      obtain ⟨b1, b2⟩ := minL_spec hne
      obtain ⟨I1, n1⟩ := I.take b1 b2
      obtain ⟨s2, led2, e2, I2, n2, l2⟩ := batch_ok N A _ led _ I1 nd
      have bl : 1 ≤ (agG s.agenda (minL (s.agenda.map (·.1)))).length := by
        cases z : agG s.agenda (minL (s.agenda.map (·.1))) with
        | nil => exact (n1 z).elim
        | cons y ys => rw [List.length_cons]; omega
      obtain ⟨s3, led3, m3, e3, I3, h3⟩ := loop_ok N A f s2 led2 _ I2 n2 (by omega)
      refine ⟨s3, led3, m3, ?_, I3, h3⟩
      have body : doneB s = some s2 := by
        unfold doneB minT
        rw [if_neg hne, Option.bind_some, popNT_ok b1, Option.bind_some]
        dsimp only
        rw [e2]; rfl
      unfold whN
      rw [Option.bind_some, if_pos (by rw [q]; rfl), body]
      exact e3
end
/-! ### the words -/
abbrev wd (ws : List Wrd) (i : Int) : Wrd := pl ws (("even" : Str), (0 : Int)) i
/-- a word as its followers' words tell it -/
def Fol (xs : List Int) (ws : List Wrd) (w : Wrd) : Prop :=
  (∃ k, w = (("won" : Str), k) ∧ (∃ j ∈ xs, wd ws j = (("lost" : Str), k - 1)) ∧ ∀ j ∈ xs, ∀ k', wd ws j = (("lost" : Str), k') → k - 1 ≤ k') ∨
  (∃ k, w = (("lost" : Str), k) ∧ (∀ j ∈ xs, ∃ k', k' ≤ k - 1 ∧ wd ws j = (("won" : Str), k')) ∧ ∃ j ∈ xs, wd ws j = (("won" : Str), k - 1)) ∨
  (w = (("even" : Str), (0 : Int)) ∧ (∀ j ∈ xs, (wd ws j).1 ≠ "lost") ∧ ∃ j ∈ xs, (wd ws j).1 ≠ "won")
structure W1 (nexts : List (List Int)) (known : List (Option Wrd)) (ws : List Wrd) : Prop where
  len : ws.length = known.length
  kn : ∀ i, val known.length i → ∀ w, pl known none i = some w → wd ws i = w
  fo : ∀ i, val known.length i → pl known none i = none → Fol (pl nexts [] i) ws (wd ws i)
  nn : ∀ i, val known.length i → 0 ≤ (wd ws i).2
theorem worked_ok {nexts : List (List Int)} {known : List (Option Wrd)} (N : Net nexts known) : ∃ ws, t_worked nexts known = some ws ∧ W1 nexts known ws := by
  obtain ⟨ah, ag, e0, l0, g0, k0, n0, c0⟩ := init_ok N
  have I0 := WInv.begin (ah := ah) N k0 n0 c0
  obtain ⟨s, led, m, e1, I, he⟩ := loop_ok N ⟨l0, g0⟩ fuel _ [] 0 I0 List.nodup_nil (by have := N.le; have : (1000 : Nat) < fuel := by decide
                                                                                        rw [List.length_nil]; omega)
  have all : ∀ x, val known.length x → ∀ k, dec (pl s.words none x) k → x ∈ led := fun x hx k hd => by
    apply Classical.byContradiction
    intro nl
    have := I.ag k x
    rw [he, agG_nil, if_pos ⟨hx, hd, nl, by simp⟩] at this
    cases this
  have gw : ∀ i, val known.length i → wd (s.words.map fun o => o.getD (("even" : Str), (0 : Int))) i = (pl s.words none i).getD (("even" : Str), (0 : Int)) := fun i hi => by
    obtain ⟨_, e⟩ := pl_at (l := s.words) (d := none) hi.1 (by rw [I.lw]; exact hi.2)
    unfold wd pl
    rw [List.getElem?_map, e]
    unfold pl
    rw [e]; rfl
  have dl : ∀ {o : Option Wrd} {k : Int} {w : Str}, o.getD (("even" : Str), (0 : Int)) = (w, k) → w ≠ "even" → o = some (w, k) := fun {o k w} h n => by
    cases o with
    | none => cases h; exact (n rfl).elim
    | some x => exact congrArg some h
  refine ⟨s.words.map fun o => o.getD (("even" : Str), (0 : Int)), ?_, ⟨by rw [List.length_map]; exact I.lw, fun i hi w h => by rw [gw i hi, I.kn i hi w h]; rfl, fun i hi hk => ?_, fun i hi => ?_⟩⟩
  · unfold t_worked t_Working_done
    rw [e0]
    simp only [Option.bind_some]
    rw [show (whN _ _ fuel _ : Option TWorking) = some s from e1]
    simp only [Option.bind_some]
    rw [lcT_map (g := fun o => o.getD (("even" : Str), (0 : Int))) fun o _ => by cases o <;> rfl]; rfl
  · have vn := (N.nx hi).2.1
    rw [gw i hi]
    cases q : pl s.words none i with
    | none =>
      obtain ⟨q1, q2, q3⟩ := I.no i hi hk q
      refine .inr (.inr ⟨rfl, fun j hj z => ?_, ?_⟩)
      · rw [gw j (vn j hj)] at z
        have h1 : pl s.words none j = some (("lost" : Str), ((pl s.words none j).getD (("even" : Str), (0 : Int))).2) := dl (Prod.ext z rfl) (by decide)
        obtain ⟨k, hk2⟩ := q1 j hj (all j (vn j hj) _ (by rw [h1]; exact dec_lost))
        rw [h1] at hk2; cases hk2
      · have pos : 0 < (pl nexts [] i).countP (fun j => decide (j ∉ led)) := by
          rw [List.count_nil] at q2; omega
        obtain ⟨j, hj, hl⟩ := List.countP_pos_iff.mp pos
        refine ⟨j, hj, fun z => ?_⟩
        rw [gw j (vn j hj)] at z
        have h1 : pl s.words none j = some (("won" : Str), ((pl s.words none j).getD (("even" : Str), (0 : Int))).2) := dl (Prod.ext z rfl) (by decide)
        have := all j (vn j hj) _ (by rw [h1]; exact dec_won (.inl rfl))
        simp [this] at hl
    | some w =>
      obtain ⟨q1, _, _⟩ := I.un i hi hk w q
      obtain ⟨w1, w2⟩ := w
      rcases q1 with h | h
      · have h : w1 = "won" := h
        subst h
        obtain ⟨⟨j, hj, hj2⟩, h2⟩ := I.wn i hi hk w2 q
        refine .inl ⟨w2, rfl, ⟨j, hj, by rw [gw j (vn j hj), hj2]; rfl⟩, fun j hj k' z => h2 j hj k' (dl (by rw [gw j (vn j hj)] at z; exact z) (by decide))⟩
      · have h : w1 = "lost" := h
        subst h
        obtain ⟨h1, j, hj, hj2⟩ := I.ls i hi hk w2 q
        refine .inr (.inl ⟨w2, rfl, fun j hj => ?_, j, hj, by rw [gw j (vn j hj), hj2]; rfl⟩)
        obtain ⟨k', a, b⟩ := h1 j hj
        exact ⟨k', a, by rw [gw j (vn j hj), b]; rfl⟩
  · rw [gw i hi]
    cases q : pl s.words none i with
    | none => exact Int.le_refl _
    | some w =>
      cases hk : pl known none i with
      | none =>
        have := (I.un i hi hk w q).2.1
        show 0 ≤ w.2
        omega
      | some x =>
        have e := I.kn i hi x hk
        rw [q] at e; cases e
        obtain ⟨_, e2⟩ := pl_at (l := known) (d := none) hi.1 hi.2
        rw [hk] at e2
        exact (N.kw _ (List.mem_of_getElem? e2)).2
end Pr
set_option maxHeartbeats 1000000
namespace Pr
open PySem L2 Dl
/-! ### by rounds -/
theorem wE : (("won" : Str)) ≠ "even" := by decide
theorem lE : (("lost" : Str)) ≠ "even" := by decide
theorem lW : (("lost" : Str)) ≠ "won" := by decide
/-- a word of a number below t -/
def sv1 (t : Int) (w : Wrd) : Option Wrd := if w.1 ≠ "even" ∧ w.2 < t then some w else none
def sv0 (t : Int) (w : Wrd) : Option Wrd := if w.1 ≠ "even" ∧ w.2 = t then some w else none
theorem sv1_some {t : Int} {w w' : Wrd} : sv1 t w = some w' ↔ w = w' ∧ w.1 ≠ "even" ∧ w.2 < t := by
  unfold sv1
  by_cases c : w.1 ≠ "even" ∧ w.2 < t
  · rw [if_pos c]; exact ⟨fun h => ⟨Option.some.inj h, c⟩, fun h => congrArg some h.1⟩
  · rw [if_neg c]; exact ⟨(fun h => nomatch h), fun h => (c h.2).elim⟩
theorem pl_map {α β : Type} {f : α → β} {l : List α} {d : α} {d' : β} {i : Int} (h : val l.length i) : pl (l.map f) d' i = f (pl l d i) := by
  obtain ⟨_, e⟩ := pl_at (l := l) (d := d) h.1 h.2
  unfold pl
  rw [List.getElem?_map, e]
  unfold pl
  rw [e]; rfl
theorem st_at {ws : List Wrd} {t i : Int} (h : val ws.length i) : atI (ws.map (sv1 t)) i = some (sv1 t (wd ws i)) := by
  rw [(pl_at (l := ws.map (sv1 t)) (d := none) h.1 (by rw [List.length_map]; exact h.2)).1, pl_map (d := (("even" : Str), (0 : Int))) h]
end Pr
set_option maxHeartbeats 1000000
namespace Pr
open PySem L2 Dl
structure FI (pre : List Wrd) (v : Option Int × Int × Int) : Prop where
  n1 : v.1 = none → ∀ x ∈ pre, x.1 ≠ "lost"
  s1 : ∀ l, v.1 = some l → ((("lost" : Str)), l) ∈ pre ∧ ∀ x ∈ pre, x.1 = "lost" → l ≤ x.2
  m0 : 0 ≤ v.2.1
  m1 : v.2.1 = 0 ∨ ((("won" : Str)), v.2.1) ∈ pre
  m2 : ∀ x ∈ pre, x.1 = "won" → x.2 ≤ v.2.1
  o0 : 0 ≤ v.2.2
  o1 : v.2.2 = 0 → ∀ x ∈ pre, x.1 = "won"
  o2 : v.2.2 ≠ 0 → ∃ x ∈ pre, x.1 ≠ "won"
theorem all_snoc {α : Type} {l : List α} {y : α} {p : α → Prop} (h : ∀ x ∈ l, p x) (hy : p y) : ∀ x ∈ l ++ [y], p x := fun x hx => by
  rcases List.mem_append.mp hx with z | z
  · exact h x z
  · rw [List.mem_singleton.mp z]; exact hy
theorem fol_step {pre : List Wrd} {v1 : Option Int × Int × Int} (item : Wrd) (I : FI pre v1) : ∃ v', (((if (decide (item.1 = ("lost" : Str))) = true then (if v1.1.isNone = true then some true else (v1.1.bind fun z2 => some (decide (item.2 < z2)))) else some false).bind fun z6 => if z6 = true then (lett (some item.2) fun least => (some least)) else (some v1.1)).bind fun v4 => ((if (decide (item.1 = ("won" : Str))) = true then (lett (max2 v1.2.1 item.2) fun most => (some (most, v1.2.2))) else (lett (v1.2.2 + (1 : Int)) fun others => (some (v1.2.1, others)))).bind fun v5 => (some (v4, v5.1, v5.2)))) = some v' ∧ FI (pre ++ [item]) v' := by
  obtain ⟨w, n⟩ := item
  obtain ⟨l, m, o⟩ := v1
  have A : ∃ v4 : Option Int, ((if (decide (w = ("lost" : Str))) = true then (if l.isNone = true then some true else (l.bind fun z2 => some (decide (n < z2)))) else some false).bind fun z6 => if z6 = true then (lett (some n) fun least => (some least)) else (some l)) = some v4 ∧ (v4 = none → ∀ x ∈ pre ++ [(w, n)], x.1 ≠ "lost") ∧ ∀ l', v4 = some l' → ((("lost" : Str)), l') ∈ pre ++ [(w, n)] ∧ ∀ x ∈ pre ++ [(w, n)], x.1 = "lost" → l' ≤ x.2 := by
    by_cases c : w = ("lost" : Str)
    · subst c
      rw [decide_eq_true rfl, if_pos rfl]
      cases l with
      | none =>
        refine ⟨some n, rfl, (fun h => nomatch h), fun l' h => ?_⟩
        cases h
        exact ⟨List.mem_append_right _ List.mem_cons_self, all_snoc (fun x hx z => (I.n1 rfl x hx z).elim) fun _ => Int.le_refl _⟩
      | some z =>
        obtain ⟨a, b⟩ := I.s1 z rfl
        by_cases d : n < z
        · refine ⟨some n, by rw [if_neg (by simp), Option.bind_some, decide_eq_true d]; rfl, (fun h => nomatch h), fun l' h => ?_⟩
          cases h
          exact ⟨List.mem_append_right _ List.mem_cons_self, all_snoc (fun x hx y => by have := b x hx y; omega) fun _ => Int.le_refl _⟩
        · refine ⟨some z, by rw [if_neg (by simp), Option.bind_some, decide_eq_false d]; rfl, (fun h => nomatch h), fun l' h => ?_⟩
          cases h
          exact ⟨List.mem_append_left _ a, all_snoc b fun _ => by dsimp only; omega⟩
    · refine ⟨l, by rw [decide_eq_false c]; rfl, fun h => all_snoc (I.n1 h) c, fun l' h => ?_⟩
      obtain ⟨a, b⟩ := I.s1 l' h
      exact ⟨List.mem_append_left _ a, all_snoc b fun z => (c z).elim⟩
  obtain ⟨v4, e, h1, h2⟩ := A
  rw [show (_ : Option (Option Int)) = some v4 from e, Option.bind_some]
  have m0 : 0 ≤ m := I.m0
  have o0 : 0 ≤ o := I.o0
  by_cases c : w = ("won" : Str)
  · subst c
    rw [decide_eq_true rfl, if_pos rfl]
    refine ⟨(v4, max2 m n, o), rfl, h1, h2, ?_, ?_, ?_, o0, fun z => all_snoc (I.o1 z) rfl, fun z => ?_⟩
    · show 0 ≤ max2 m n
      unfold max2; split <;> omega
    · show max2 m n = 0 ∨ _
      unfold max2
      split
      · exact .inr (List.mem_append_right _ List.mem_cons_self)
      · rcases I.m1 with z | z
        · exact .inl z
        · exact .inr (List.mem_append_left _ z)
    · refine all_snoc (fun x hx z => ?_) fun _ => ?_
      · have : x.2 ≤ m := I.m2 x hx z
        show x.2 ≤ max2 m n
        unfold max2; split <;> omega
      · show n ≤ max2 m n
        unfold max2; split <;> omega
    · obtain ⟨x, hx, q⟩ := I.o2 z
      exact ⟨x, List.mem_append_left _ hx, q⟩
  · rw [decide_eq_false c, if_neg (by decide)]
    refine ⟨(v4, m, o + 1), rfl, h1, h2, m0, ?_, all_snoc I.m2 fun z => (c z).elim, by dsimp only; omega, fun z => ?_, fun _ => ⟨(w, n), List.mem_append_right _ List.mem_cons_self, c⟩⟩
    · rcases I.m1 with z | z
      · exact .inl z
      · exact .inr (List.mem_append_left _ z)
    · exfalso
      have z : o + 1 = 0 := z
      have o0 : 0 ≤ o := o0
      omega
theorem follows_ok {ws : List Wrd} {xs : List Int} {w : Wrd} (nn : ∀ j ∈ xs, 0 ≤ (wd ws j).2) (f : Fol xs ws w) : t_law_follows (xs.map (wd ws)) = some (w.1, D.int w.2) := by
  unfold t_law_follows
  refine bind_fold FI ⟨(fun _ x h => nomatch h), (fun l h => nomatch h), Int.le_refl _, .inl rfl, (fun x h => nomatch h), Int.le_refl _, (fun _ x h => nomatch h), fun z => (z rfl).elim⟩ (fun pre x v _ P => fol_step x P) (fun v I => ?_)
  obtain ⟨l, m, o⟩ := v
  have im : ∀ {x : Wrd}, x ∈ xs.map (wd ws) ↔ ∃ j ∈ xs, wd ws j = x := fun {x} => List.mem_map
  have m0 : 0 ≤ m := I.m0
  have o0 : 0 ≤ o := I.o0
  rcases f with ⟨k, rfl, ⟨j, hj, e⟩, h2⟩ | ⟨k, rfl, h1, ⟨j, hj, e⟩⟩ | ⟨rfl, h1, j, hj, n⟩
  · have mem := im.mpr ⟨j, hj, e⟩
    cases l with
    | none => exact (I.n1 rfl _ mem rfl).elim
    | some z =>
      obtain ⟨a, b⟩ := I.s1 z rfl
      have b1 : z ≤ k - 1 := b _ mem rfl
      obtain ⟨j2, hj2, e2⟩ := im.mp a
      have := h2 j2 hj2 _ e2
      have zk : z + 1 = k := by omega
      show some ((("won" : Str)), D.int (z + 1)) = _
      rw [zk]
  · cases l with
    | some z =>
      obtain ⟨a, _⟩ := I.s1 z rfl
      obtain ⟨j2, hj2, e2⟩ := im.mp a
      obtain ⟨k', _, q⟩ := h1 j2 hj2
      rw [e2] at q
      exact absurd (congrArg Prod.fst q) lW
    | none =>
      have oz : o = 0 := by
        apply Classical.byContradiction
        intro z
        obtain ⟨x, hx, q⟩ := I.o2 z
        obtain ⟨j2, hj2, e2⟩ := im.mp hx
        obtain ⟨k', _, q2⟩ := h1 j2 hj2
        rw [← e2, q2] at q
        exact q rfl
      have n0 := nn j hj
      rw [e] at n0
      have n0 : 0 ≤ k - 1 := n0
      have b1 : k - 1 ≤ m := I.m2 _ (im.mpr ⟨j, hj, e⟩) rfl
      have b2 : m = 0 ∨ m ≤ k - 1 := by
        rcases I.m1 with z | z
        · exact .inl z
        · obtain ⟨j2, hj2, e2⟩ := im.mp z
          obtain ⟨k', q, q2⟩ := h1 j2 hj2
          rw [e2] at q2
          have : m = k' := congrArg Prod.snd q2
          exact .inr (by omega)
      have mk : m + 1 = k := by omega
      subst oz
      show some ((("lost" : Str)), D.int (m + 1)) = _
      rw [mk]
  · cases l with
    | some z =>
      obtain ⟨a, _⟩ := I.s1 z rfl
      obtain ⟨j2, hj2, e2⟩ := im.mp a
      exact (h1 j2 hj2 (by rw [e2])).elim
    | none =>
      have oz : o ≠ 0 := fun z => n (I.o1 z _ (im.mpr ⟨j, hj, rfl⟩))
      show (if (decide (o = (0 : Int))) = true then _ else _) = _
      rw [decide_eq_false oz]; rfl
theorem cell_ok (ns : List Int) {k : Int} (h : 0 ≤ k) : ∃ c, t_law_cell_at ns k = some c := by
  unfold t_law_cell_at
  by_cases c : k < (ns.length : Int)
  · obtain ⟨x, e, _⟩ := atI_ok h c
    exact ⟨x, by rw [if_pos (decide_eq_true c)]; exact e⟩
  · exact ⟨0, by rw [if_neg (by rw [decide_eq_false c]; decide)]⟩
def okW (w : Wrd) : Prop := (w.1 = "won" ∨ w.1 = "lost" ∨ w.1 = "even") ∧ 0 ≤ w.2
theorem known_ok (cell : Int) : ∃ o, t_law_known cell = some o ∧ ∀ w, o = some w → okW w := by
  unfold t_law_known
  by_cases c : (0 : Int) < cell % 5
  · exact ⟨none, by rw [if_pos (decide_eq_true c)], fun w h => nomatch h⟩
  · rw [if_neg (by rw [decide_eq_false c]; decide)]
    obtain ⟨x, e, m, _⟩ := atI_ok (xs := [("won" : Str), ("lost" : Str), ("lost" : Str), ("even" : Str)]) (i := (cell / 5) % 4) (by omega) (by show _ < (4 : Int); omega)
    rw [e, Option.bind_some]
    have kind : x = "won" ∨ x = "lost" ∨ x = "even" := by
      simp only [List.mem_cons, List.not_mem_nil, or_false] at m
      rcases m with m | m | m | m
      · exact .inl m
      · exact .inr (.inl m)
      · exact .inr (.inl m)
      · exact .inr (.inr m)
    by_cases d : x = ("even" : Str)
    · exact ⟨some (("even" : Str), (0 : Int)), by rw [if_pos (decide_eq_true d)], fun w h => by cases h; exact ⟨.inr (.inr rfl), Int.le_refl _⟩⟩
    · rw [if_neg (by rw [decide_eq_false d]; decide)]
      by_cases g : (cell / 20) % 4 = (1 : Int)
      · refine ⟨some (x, (cell / 80) % (((10 : Int) ^ 9) + 1)), by rw [if_pos (decide_eq_true g), modT_ok (by decide)]; rfl, fun w h => ?_⟩
        cases h
        exact ⟨kind, Int.emod_nonneg _ (by decide)⟩
      · refine ⟨some (x, (cell / 80) % 21), by rw [if_neg (by rw [decide_eq_false g]; decide)], fun w h => ?_⟩
        cases h
        exact ⟨kind, Int.emod_nonneg _ (by decide)⟩
theorem nexts_ok (cell at_ : Int) {many : Int} (b : Bool) (h1 : 1 ≤ many) (h2 : many ≤ 60) : ∃ xs, t_law_nexts cell at_ many b = some xs ∧ xs ≠ [] ∧ xs.length ≤ 6 ∧ ∀ x ∈ xs, 0 ≤ x ∧ x < many := by
  unfold t_law_nexts
  have hn : (1 : Int) + ((cell / 1680) % 6) = (((1 : Int) + ((cell / 1680) % 6)).toNat : Int) := by omega
  rw [hn, rngT_ok (by omega) (by omega), Option.bind_some]
  have key : ∀ {B : List Int → Int → Option (List Int)}, (∀ (v : List Int) (k : Nat), v.length ≤ 10 → k < 6 → ∃ x, B v (k : Int) = some (v ++ [x]) ∧ 0 ≤ x ∧ x < many) → ∃ v', foldT B (rng (((1 : Int) + ((cell / 1680) % 6)).toNat : Int)) [] = some v' ∧ v'.length = ((1 : Int) + ((cell / 1680) % 6)).toNat ∧ ∀ x ∈ v', 0 ≤ x ∧ x < many := fun {B} hB => by
    refine foldT_upto (fun (i : Nat) (v : List Int) => v.length = i ∧ ∀ x ∈ v, 0 ≤ x ∧ x < many) ⟨rfl, fun x h => by cases h⟩ (fun i v hi hp => ?_)
    obtain ⟨c, e, q⟩ := hB v i (by omega) (by omega)
    refine ⟨_, e, by rw [List.length_append, hp.1]; rfl, fun x hx => ?_⟩
    rcases List.mem_append.mp hx with z | z
    · exact hp.2 x z
    · rw [List.mem_singleton.mp z]
      exact q
  obtain ⟨v', e, l, g⟩ := key (B := fun v1 k => (((((divT cell (k + (1 : Int))).bind fun z4 => some (z4 + (7919 * k))).bind fun z6 => some (z6 * 69621)).bind fun z7 => some (z7 % 998244353)).bind fun step => ((if b = true then ((modT ((at_ + (step % 5)) - (1 : Int)) many).bind fun z11 => (appT v1 z11).bind fun found => (some found)) else ((modT step many).bind fun z14 => (appT v1 z14).bind fun found1 => (some found1))).bind fun v8 => (some v8)))) (fun v k hv hk => by
    rw [divT_ok (by omega) (by omega)]
    simp only [Option.bind_some]
    cases b with
    | true =>
      refine ⟨_, by rw [if_pos rfl, modT_ok (by omega), Option.bind_some, appT_ok (by omega)]; rfl, Int.emod_nonneg _ (by omega), Int.emod_lt_of_pos _ (by omega)⟩
    | false =>
      refine ⟨_, by rw [if_neg (by decide), modT_ok (by omega), Option.bind_some, appT_ok (by omega)]; rfl, Int.emod_nonneg _ (by omega), Int.emod_lt_of_pos _ (by omega)⟩)
  refine ⟨v', ?_, fun z => by rw [z] at l; rw [List.length_nil] at l; omega, by omega, g⟩
  rw [show foldT _ (rng _) _ = some v' from e]; rfl
structure NetP (many : Int) (i : Nat) (v : List (List Int) × List (Option Wrd)) : Prop where
  l1 : v.1.length = i
  l2 : v.2.length = i
  nx : ∀ xs ∈ v.1, xs.length ≤ 6 ∧ ∀ x ∈ xs, 0 ≤ x ∧ x < many
  ne : ∀ (j : Nat) xs, v.1[j]? = some xs → v.2[j]? = some none → xs ≠ []
  kw : ∀ w, some w ∈ v.2 → okW w
theorem net_ok (ns : List Int) : ∃ nx kn, t_law_net ns = some (nx, kn) ∧ Net nx kn := by
  unfold t_law_net
  obtain ⟨c0, e0⟩ := cell_ok ns (k := 0) (Int.le_refl _)
  obtain ⟨way, e1⟩ := cell_ok ns (k := 1) (by decide)
  rw [e0, e1]
  simp only [Option.bind_some]
  have hm : (1 : Int) + c0 % 60 = (((1 : Int) + c0 % 60).toNat : Int) := by omega
  have m9 : ((1 : Int) + c0 % 60).toNat ≤ 60 := by omega
  have m1 : 1 ≤ ((1 : Int) + c0 % 60).toNat := by omega
  generalize ((1 : Int) + c0 % 60).toNat = M at hm m9 m1
  rw [hm, rngT_ok (by omega) (by omega)]
  simp only [Option.bind_some]
  have key : ∀ {B : (List (List Int) × List (Option Wrd)) → Int → Option (List (List Int) × List (Option Wrd))}, (∀ (v : List (List Int) × List (Option Wrd)) (i : Nat), NetP M i v → i < M → ∃ xs o, B v (i : Int) = some (v.1 ++ [xs], v.2 ++ [o]) ∧ xs.length ≤ 6 ∧ (∀ x ∈ xs, 0 ≤ x ∧ x < (M : Int)) ∧ (o = none → xs ≠ []) ∧ ∀ w, o = some w → okW w) → ∃ v', foldT B (rng (M : Int)) ([], []) = some v' ∧ NetP M M v' := fun {B} hB => by
    refine foldT_upto (fun i v => NetP M i v) ⟨rfl, rfl, (fun x h => nomatch h), (fun j xs h => nomatch h), (fun x h => nomatch h)⟩ (fun i v hi hp => ?_)
    obtain ⟨xs, o, e, q1, q2, q3, q4⟩ := hB v i hp hi
    refine ⟨_, e, by dsimp only; rw [List.length_append, hp.l1]; rfl, by dsimp only; rw [List.length_append, hp.l2]; rfl, fun ys hy => ?_, fun j ys h1 h2 => ?_, fun w hw => ?_⟩
    · rcases List.mem_append.mp hy with z | z
      · exact hp.nx ys z
      · rw [List.mem_singleton.mp z]; exact ⟨q1, q2⟩
    · dsimp only at h1 h2
      by_cases c : j < i
      · rw [List.getElem?_append_left (by rw [hp.l1]; exact c)] at h1
        rw [List.getElem?_append_left (by rw [hp.l2]; exact c)] at h2
        exact hp.ne j ys h1 h2
      · rw [List.getElem?_append_right (by rw [hp.l1]; omega), hp.l1] at h1
        rw [List.getElem?_append_right (by rw [hp.l2]; omega), hp.l2] at h2
        cases q : j - i with
        | zero =>
          rw [q] at h1 h2
          have h1 : xs = ys := Option.some.inj h1
          have h2 : o = none := Option.some.inj h2
          rw [← h1]; exact q3 h2
        | succ n => rw [q] at h1; cases h1
    · rcases List.mem_append.mp hw with z | z
      · exact hp.kw w z
      · exact q4 w (List.mem_singleton.mp z).symm
  have chain : ∀ (i : Nat) (word : Option Wrd) (numbers : List Int), i < M → (∀ w, word = some w → okW w) → numbers ≠ [] → numbers.length ≤ 6 → (∀ x ∈ numbers, 0 ≤ x ∧ x < (M : Int)) → ∃ o xs, (if (decide (((way / 2) % 4) = (1 : Int))) = true then (lett [((i : Int) + (1 : Int))] fun numbers1 => ((if (decide (((i : Int) + (1 : Int)) = (M : Int))) = true then (((atI [(("lost" : Str), ((way / 8) % 9)), (("won" : Str), ((way / 8) % 9))] ((way / 72) % 2)).bind fun z13 => some (some z13)).bind fun word1 => (some word1)) else (some none)).bind fun v10 => (some (v10, numbers1)))) else (some (word, numbers))) = some (o, xs) ∧ xs ≠ [] ∧ xs.length ≤ 6 ∧ (∀ w, o = some w → okW w) ∧ ∀ x ∈ xs, 0 ≤ x ∧ (x < (M : Int) ∨ (i : Int) + 1 = M ∧ o.isSome = true) := fun i word numbers hi h1 h2 h3 h4 => by
    by_cases c : ((way / 2) % 4) = (1 : Int)
    · rw [decide_eq_true c, if_pos rfl, lett_def]
      by_cases d : ((i : Int) + (1 : Int)) = (M : Int)
      · obtain ⟨x, e, m, _⟩ := atI_ok (xs := [(("lost" : Str), ((way / 8) % 9)), (("won" : Str), ((way / 8) % 9))]) (i := (way / 72) % 2) (by omega) (by show _ < (2 : Int); omega)
        refine ⟨some x, [(i : Int) + 1], by rw [decide_eq_true d, if_pos rfl, e]; rfl, by simp, by simp, fun w h => ?_, fun y hy => ?_⟩
        · cases h
          simp only [List.mem_cons, List.not_mem_nil, or_false] at m
          rcases m with m | m <;> rw [m]
          · exact ⟨.inr (.inl rfl), Int.emod_nonneg _ (by decide)⟩
          · exact ⟨.inl rfl, Int.emod_nonneg _ (by decide)⟩
        · rw [List.mem_singleton.mp hy]; exact ⟨by omega, .inr ⟨d, rfl⟩⟩
      · refine ⟨none, [(i : Int) + 1], by rw [decide_eq_false d]; rfl, by simp, by simp, (fun w h => nomatch h), fun y hy => ?_⟩
        rw [List.mem_singleton.mp hy]; exact ⟨by omega, .inl (by omega)⟩
    · rw [decide_eq_false c]
      exact ⟨word, numbers, rfl, h2, h3, h1, fun x hx => ⟨(h4 x hx).1, .inl (h4 x hx).2⟩⟩
  obtain ⟨v', e, P⟩ := key (B := fun v4 at_ => (((((t_law_cell_at ns ((2 : Int) + (at_ % 61))).bind fun z5 => some (z5 + (7919 * at_))).bind fun z7 => some (z7 * 48271)).bind fun z8 => some (z8 % 2147483647)).bind fun cell => ((t_law_known cell).bind fun word => ((t_law_nexts cell at_ (M : Int) (decide ((way % 2) = (1 : Int)))).bind fun numbers => ((if (decide (((way / 2) % 4) = (1 : Int))) = true then (lett [(at_ + (1 : Int))] fun numbers1 => ((if (decide ((at_ + (1 : Int)) = (M : Int))) = true then (((atI [(("lost" : Str), ((way / 8) % 9)), (("won" : Str), ((way / 8) % 9))] ((way / 72) % 2)).bind fun z13 => some (some z13)).bind fun word1 => (some word1)) else (some none)).bind fun v10 => (some (v10, numbers1)))) else (some (word, numbers))).bind fun v9 => ((if (v9.1.isSome && ((decide ((cell % 2) = (0 : Int))) || (decide ((at_ + (1 : Int)) = (M : Int))))) = true then (some []) else (some v9.2)).bind fun v14 => ((appT v4.2 v9.1).bind fun known_here => ((appT v4.1 v14).bind fun nexts_here => (some (nexts_here, known_here)))))))))) (fun v i P hi => by
    obtain ⟨c, ec⟩ := cell_ok ns (k := 2 + ((i : Int) % 61)) (by omega)
    rw [ec, Option.bind_some, Option.bind_some, Option.bind_some, Option.bind_some]
    generalize (c + 7919 * (i : Int)) * 48271 % 2147483647 = cell
    obtain ⟨o, eo, go⟩ := known_ok cell
    obtain ⟨xs, ex, g1, g2, g3⟩ := nexts_ok cell (i : Int) (many := (M : Int)) (decide ((way % 2) = (1 : Int))) (by omega) (by omega)
    obtain ⟨o2, xs2, ey, k1, k2, k3, k4⟩ := chain i o xs hi go g1 g2 g3
    have l1 := P.l1
    have l2 := P.l2
    rw [eo, Option.bind_some, ex, Option.bind_some, ey, Option.bind_some]
    by_cases d : (o2.isSome && ((decide ((cell % 2) = (0 : Int))) || (decide (((i : Int) + (1 : Int)) = (M : Int))))) = true
    · refine ⟨[], o2, by rw [if_pos d, Option.bind_some, appT_ok (by omega), Option.bind_some, appT_ok (by omega)]; rfl, by decide, (fun x h => nomatch h), fun z => ?_, k3⟩
      rw [z] at d; cases d
    · refine ⟨xs2, o2, by rw [if_neg d, Option.bind_some, appT_ok (by omega), Option.bind_some, appT_ok (by omega)]; rfl, k2, fun x hx => ⟨(k4 x hx).1, ?_⟩, fun _ => k1, k3⟩
      rcases (k4 x hx).2 with z | ⟨z, z2⟩
      · exact z
      · exact (d (by rw [z2, decide_eq_true z]; simp)).elim)
  refine ⟨v'.1, v'.2, ?_, ⟨by rw [P.l1, P.l2], by rw [P.l2]; omega, fun xs hx x h => by rw [P.l2]; exact (P.nx xs hx).2 x h, fun xs hx => Nat.le_trans (P.nx xs hx).1 (by decide), P.ne, fun w hw => P.kw w hw⟩⟩
  rw [show foldT _ (rng (M : Int)) ([], []) = some v' from e]; rfl
theorem isw {w : Wrd} (h : w.1 = "won" ∨ w.1 = "lost" ∨ w.1 = "even") : t_law_is_word w = some true := by
  obtain ⟨a, b⟩ := w
  rcases h with h | h | h <;> (have h : a = _ := h; subst h; rfl)
theorem neB_refl (w : Wrd) : neB (eT2 D.str D.int w) (eT2 D.str D.int w) = some false := by
  have E := enc_t2 enc_str enc_int
  unfold neB
  rw [if_pos (cmpOk_of (E.fit w) (E.fit w) (by decide)), E.inj, decide_eq_true rfl]; rfl
theorem neB_refl' (w : Wrd) : neB (eT2 D.str D.int w) (eO (eT2 D.str eD) (some (w.1, D.int w.2))) = some false := neB_refl w
theorem law_t (ns : List Int) : t_law ns = some true := by
  obtain ⟨nx, kn, e, N⟩ := net_ok ns
  obtain ⟨ws, e1, W⟩ := worked_ok N
  have le := N.le
  unfold t_law
  rw [e, Option.bind_some, lett_def]
  dsimp only
  rw [List.map_id' nx, e1, Option.bind_some, if_neg (by simp [W.len]), rngT_ok (by omega) (by omega), Option.bind_some]
  rw [forT_unit (fun i hi => ?_)]
  · rfl
  · have hv := mem_rng.mp hi
    have hw : val ws.length i := by rw [W.len]; exact hv
    have a1 : atI ws i = some (wd ws i) := (pl_at (l := ws) (d := (("even" : Str), (0 : Int))) hw.1 hw.2).1
    have a2 := (pl_at (l := kn) (d := none) hv.1 hv.2).1
    have a3 := (pl_at (l := nx) (d := []) hv.1 (by rw [N.len]; exact hv.2)).1
    have kind : (wd ws i).1 = "won" ∨ (wd ws i).1 = "lost" ∨ (wd ws i).1 = "even" := by
      cases q : pl kn none i with
      | some w =>
        rw [W.kn i hv w q]
        exact (N.kw w (by rw [← q]; exact List.mem_of_getElem? (pl_at (l := kn) (d := none) hv.1 hv.2).2)).1
      | none =>
        rcases W.fo i hv q with ⟨k, z, _⟩ | ⟨k, z, _⟩ | ⟨z, _⟩
        · exact .inl (by rw [z])
        · exact .inr (.inl (by rw [z]))
        · exact .inr (.inr (by rw [z]))
    rw [a1, Option.bind_some, isw kind, Option.bind_some, Option.bind_some, if_neg (by decide), a2, Option.bind_some, Option.bind_some]
    cases q : pl kn none i with
    | some w =>
      have e3 := W.kn i hv w q
      simp only [Option.map_some, Option.isNone_some, Bool.false_eq_true, if_false, Option.bind_some]
      rw [e3, neB_refl', Option.bind_some, if_neg (by decide)]
    | none =>
      have vn := (N.nx hv).2.1
      have lc : lcT (fun number => (some true)) (fun number => (atI ws number)) (pl nx [] i) = some ((pl nx [] i).map (wd ws)) := lcT_map fun j hj => (pl_at (l := ws) (d := (("even" : Str), (0 : Int))) (vn j hj).1 (by rw [W.len]; exact (vn j hj).2)).1
      simp only [Option.map_none, Option.isNone_none, if_true]
      rw [a3, Option.bind_some, lc, Option.bind_some, follows_ok (fun j hj => W.nn j (vn j hj)) (W.fo i hv q), Option.bind_some, Option.bind_some, Option.bind_some, Option.bind_some]
      rw [Option.bind_some, neB_refl', Option.bind_some, if_neg (by decide)]
theorem law_true (ns : List Int) (_ : ns.length ≤ 63) : den_law [.scr ns] = some (.bl true) := law_of_t ns (law_t ns)
end Pr
set_option maxHeartbeats 4000000
namespace Pr
open PySem L2 Dl
theorem all_mk {l : PySem.W.OpenLaw} {w : World} {K : PySem.W.Frag} {h : Heap} {mg : Str → Option Value} {fa : Addr} (X : K.In h) (G : h.Ns mainGlobals mg) (hfa : mg "law" = some (.ref fa))
    {f0 : Addr} {od0 an0 : Option Addr} {sl0 : Array (Option Value)} {oc0 kV0 dc0 pm0 cd0 ct0 : Value}
    {f1 : Addr} {od1 an1 : Option Addr} {sl1 : Array (Option Value)} {oc1 kV1 dc1 pm1 cd1 ct1 : Value}
    {f2 : Addr} {od2 an2 : Option Addr} {sl2 : Array (Option Value)} {oc2 kV2 dc2 pm2 cd2 ct2 : Value}
    {f3 : Addr} {od3 an3 : Option Addr} {sl3 : Array (Option Value)} {oc3 kV3 dc3 pm3 cd3 ct3 : Value}
    {f4 : Addr} {od4 an4 : Option Addr} {sl4 : Array (Option Value)} {oc4 kV4 dc4 pm4 cd4 ct4 : Value}
    {f5 : Addr} {od5 an5 : Option Addr} {sl5 : Array (Option Value)} {oc5 kV5 dc5 pm5 cd5 ct5 : Value}
    {f6 : Addr} {od6 an6 : Option Addr} {sl6 : Array (Option Value)} {oc6 kV6 dc6 pm6 cd6 ct6 : Value}
    {f7 : Addr} {od7 an7 : Option Addr} {sl7 : Array (Option Value)} {oc7 kV7 dc7 pm7 cd7 ct7 : Value}
    {f8 : Addr} {od8 an8 : Option Addr} {sl8 : Array (Option Value)} {oc8 kV8 dc8 pm8 cd8 ct8 : Value}
    {f9 : Addr} {od9 an9 : Option Addr} {sl9 : Array (Option Value)} {oc9 kV9 dc9 pm9 cd9 ct9 : Value}
    {f10 : Addr} {od10 an10 : Option Addr} {sl10 : Array (Option Value)} {oc10 kV10 dc10 pm10 cd10 ct10 : Value}
    {f11 : Addr} {od11 an11 : Option Addr} {sl11 : Array (Option Value)} {oc11 kV11 dc11 pm11 cd11 ct11 : Value}
    {f12 : Addr} {od12 an12 : Option Addr} {sl12 : Array (Option Value)} {oc12 kV12 dc12 pm12 cd12 ct12 : Value}
    {f13 : Addr} {od13 an13 : Option Addr} {sl13 : Array (Option Value)} {oc13 kV13 dc13 pm13 cd13 ct13 : Value}
    {C_Working : Addr}
    (aC_Working : PySem.W.nsIn K mainGlobals "Working" = some (some (.ref C_Working)))
    (pg_Working : PySem.W.plainGet K C_Working Str.empty = true)
    (hd_Working : PySem.W.hasDictIn K C_Working = true)
    (po_Working : PySem.W.plainOver K C_Working = true)
    (sa_Working : PySem.W.findIn K (.ref C_Working) "__setattr__" = some (some (.builtin "object.__setattr__")))
    (mk_Working : PySem.W.makesIn K C_Working = true)
    (kc_Working : PySem.W.keepIn K (.ref C_Working) = true)
    (a0 : PySem.W.nsIn K mainGlobals "comers" = some (some (.ref f0)))
    (l0 : K.lookup f0 = some ⟨oc0, od0, .func (PySem.W.fnOf "comers" "comers" (defArgs s_comers) (defBody s_comers) (defScope s_comers) .none kV0 dc0 pm0 an0 cd0 ct0), sl0⟩) (c0 : PySem.W.codeIn K cd0 "comers" = true) (k0 : PySem.W.keepIn K (.ref f0) = true)
    (a1 : PySem.W.nsIn K mainGlobals "begun" = some (some (.ref f1)))
    (l1 : K.lookup f1 = some ⟨oc1, od1, .func (PySem.W.fnOf "begun" "begun" (defArgs s_begun) (defBody s_begun) (defScope s_begun) .none kV1 dc1 pm1 an1 cd1 ct1), sl1⟩) (c1 : PySem.W.codeIn K cd1 "begun" = true) (k1 : PySem.W.keepIn K (.ref f1) = true)
    (a2 : PySem.W.findIn K (.ref C_Working) "__init__" = some (some (.ref f2))) (i2 : PySem.W.isFn K (.ref f2) = true)
    (l2 : K.lookup f2 = some ⟨oc2, od2, .func (PySem.W.fnOf "__init__" "Working.__init__" (defArgs s_Working__init_) (defBody s_Working__init_) (defScope s_Working__init_) .none kV2 dc2 pm2 an2 cd2 ct2), sl2⟩) (c2 : PySem.W.codeIn K cd2 "Working.__init__" = true) (k2 : PySem.W.keepIn K (.ref f2) = true)
    (a3 : PySem.W.findIn K (.ref C_Working) "told" = some (some (.ref f3))) (i3 : PySem.W.isFn K (.ref f3) = true)
    (l3 : K.lookup f3 = some ⟨oc3, od3, .func (PySem.W.fnOf "told" "Working.told" (defArgs s_Working_told) (defBody s_Working_told) (defScope s_Working_told) .none kV3 dc3 pm3 an3 cd3 ct3), sl3⟩) (c3 : PySem.W.codeIn K cd3 "Working.told" = true) (k3 : PySem.W.keepIn K (.ref f3) = true)
    (a4 : PySem.W.findIn K (.ref C_Working) "led" = some (some (.ref f4))) (i4 : PySem.W.isFn K (.ref f4) = true)
    (l4 : K.lookup f4 = some ⟨oc4, od4, .func (PySem.W.fnOf "led" "Working.led" (defArgs s_Working_led) (defBody s_Working_led) (defScope s_Working_led) .none kV4 dc4 pm4 an4 cd4 ct4), sl4⟩) (c4 : PySem.W.codeIn K cd4 "Working.led" = true) (k4 : PySem.W.keepIn K (.ref f4) = true)
    (a5 : PySem.W.findIn K (.ref C_Working) "done" = some (some (.ref f5))) (i5 : PySem.W.isFn K (.ref f5) = true)
    (l5 : K.lookup f5 = some ⟨oc5, od5, .func (PySem.W.fnOf "done" "Working.done" (defArgs s_Working_done) (defBody s_Working_done) (defScope s_Working_done) .none kV5 dc5 pm5 an5 cd5 ct5), sl5⟩) (c5 : PySem.W.codeIn K cd5 "Working.done" = true) (k5 : PySem.W.keepIn K (.ref f5) = true)
    (a6 : PySem.W.nsIn K mainGlobals "worked" = some (some (.ref f6)))
    (l6 : K.lookup f6 = some ⟨oc6, od6, .func (PySem.W.fnOf "worked" "worked" (defArgs s_worked) (defBody s_worked) (defScope s_worked) .none kV6 dc6 pm6 an6 cd6 ct6), sl6⟩) (c6 : PySem.W.codeIn K cd6 "worked" = true) (k6 : PySem.W.keepIn K (.ref f6) = true)
    (a7 : PySem.W.nsIn K mainGlobals "_law_cell_at" = some (some (.ref f7)))
    (l7 : K.lookup f7 = some ⟨oc7, od7, .func (PySem.W.fnOf "_law_cell_at" "_law_cell_at" (defArgs s_law_cell_at) (defBody s_law_cell_at) (defScope s_law_cell_at) .none kV7 dc7 pm7 an7 cd7 ct7), sl7⟩) (c7 : PySem.W.codeIn K cd7 "_law_cell_at" = true) (k7 : PySem.W.keepIn K (.ref f7) = true)
    (a8 : PySem.W.nsIn K mainGlobals "_law_known" = some (some (.ref f8)))
    (l8 : K.lookup f8 = some ⟨oc8, od8, .func (PySem.W.fnOf "_law_known" "_law_known" (defArgs s_law_known) (defBody s_law_known) (defScope s_law_known) .none kV8 dc8 pm8 an8 cd8 ct8), sl8⟩) (c8 : PySem.W.codeIn K cd8 "_law_known" = true) (k8 : PySem.W.keepIn K (.ref f8) = true)
    (a9 : PySem.W.nsIn K mainGlobals "_law_nexts" = some (some (.ref f9)))
    (l9 : K.lookup f9 = some ⟨oc9, od9, .func (PySem.W.fnOf "_law_nexts" "_law_nexts" (defArgs s_law_nexts) (defBody s_law_nexts) (defScope s_law_nexts) .none kV9 dc9 pm9 an9 cd9 ct9), sl9⟩) (c9 : PySem.W.codeIn K cd9 "_law_nexts" = true) (k9 : PySem.W.keepIn K (.ref f9) = true)
    (a10 : PySem.W.nsIn K mainGlobals "_law_net" = some (some (.ref f10)))
    (l10 : K.lookup f10 = some ⟨oc10, od10, .func (PySem.W.fnOf "_law_net" "_law_net" (defArgs s_law_net) (defBody s_law_net) (defScope s_law_net) .none kV10 dc10 pm10 an10 cd10 ct10), sl10⟩) (c10 : PySem.W.codeIn K cd10 "_law_net" = true) (k10 : PySem.W.keepIn K (.ref f10) = true)
    (a11 : PySem.W.nsIn K mainGlobals "_law_follows" = some (some (.ref f11)))
    (l11 : K.lookup f11 = some ⟨oc11, od11, .func (PySem.W.fnOf "_law_follows" "_law_follows" (defArgs s_law_follows) (defBody s_law_follows) (defScope s_law_follows) .none kV11 dc11 pm11 an11 cd11 ct11), sl11⟩) (c11 : PySem.W.codeIn K cd11 "_law_follows" = true) (k11 : PySem.W.keepIn K (.ref f11) = true)
    (a12 : PySem.W.nsIn K mainGlobals "_law_is_word" = some (some (.ref f12)))
    (l12 : K.lookup f12 = some ⟨oc12, od12, .func (PySem.W.fnOf "_law_is_word" "_law_is_word" (defArgs s_law_is_word) (defBody s_law_is_word) (defScope s_law_is_word) .none kV12 dc12 pm12 an12 cd12 ct12), sl12⟩) (c12 : PySem.W.codeIn K cd12 "_law_is_word" = true) (k12 : PySem.W.keepIn K (.ref f12) = true)
    (a13 : PySem.W.nsIn K mainGlobals "law" = some (some (.ref f13)))
    (l13 : K.lookup f13 = some ⟨oc13, od13, .func (PySem.W.fnOf "law" "law" (defArgs s_law) (defBody s_law) (defScope s_law) .none kV13 dc13 pm13 an13 cd13 ct13), sl13⟩) (c13 : PySem.W.codeIn K cd13 "law" = true) (k13 : PySem.W.keepIn K (.ref f13) = true)
    (na_Working_words : PySem.W.findIn K (.ref C_Working) "words" = some none)
    (na_Working_waits : PySem.W.findIn K (.ref C_Working) "waits" = some none)
    (na_Working_ahead : PySem.W.findIn K (.ref C_Working) "ahead" = some none)
    (na_Working_agenda : PySem.W.findIn K (.ref C_Working) "agenda" = some none)
    (z_enumerate : PySem.W.nsIn K mainGlobals "enumerate" = some none)
    (z_list : PySem.W.nsIn K mainGlobals "list" = some none)
    (z_len : PySem.W.nsIn K mainGlobals "len" = some none)
    (z_min : PySem.W.nsIn K mainGlobals "min" = some none)
    (z_range : PySem.W.nsIn K mainGlobals "range" = some none)
    (z_max : PySem.W.nsIn K mainGlobals "max" = some none)
    (z_tuple : PySem.W.nsIn K mainGlobals "tuple" = some none)
    (z_isinstance : PySem.W.nsIn K mainGlobals "isinstance" = some none)
    (z_bool : PySem.W.nsIn K mainGlobals "bool" = some none)
    (z_int : PySem.W.nsIn K mainGlobals "int" = some none)
    (hden : ∀ ns : List Int, ns.length ≤ 63 → den_law [.scr ns] = some (.bl true)) :
    ∃ fd : FuncData, (∀ (s : Shared) (v : Value), BindsTo s fd ⟨[v], []⟩ [("_law_script", v)]) ∧ ∀ base : Heap, K.In base → base.Ns mainGlobals mg → FnOk l.prog w K mg base CX0 5 fa fd ["_law_script"] (spLaw K) := by
  have e := hfa.symm.trans (PySem.W.mg_of X G a13)
  cases e
  have F0 := fun_mk (st := s_comers) l0 c0 k0
  have b0 := F0.binds (ps := ["nexts", "known"]) fun _ _ _ _ _ _ us hl => match us, hl with | [_, _], _ => rfl
  have F1 := fun_mk (st := s_begun) l1 c1 k1
  have b1 := F1.binds (ps := ["known"]) fun _ _ _ _ _ _ us hl => match us, hl with | [_], _ => rfl
  have F2 := fun_mk (st := s_Working__init_) l2 c2 k2
  have b2 := F2.binds (ps := ["self", "nexts", "known"]) fun _ _ _ _ _ _ us hl => match us, hl with | [_, _, _], _ => rfl
  have F3 := fun_mk (st := s_Working_told) l3 c3 k3
  have b3 := F3.binds (ps := ["self", "at", "word"]) fun _ _ _ _ _ _ us hl => match us, hl with | [_, _, _], _ => rfl
  have F4 := fun_mk (st := s_Working_led) l4 c4 k4
  have b4 := F4.binds (ps := ["self", "at"]) fun _ _ _ _ _ _ us hl => match us, hl with | [_, _], _ => rfl
  have F5 := fun_mk (st := s_Working_done) l5 c5 k5
  have b5 := F5.binds (ps := ["self"]) fun _ _ _ _ _ _ us hl => match us, hl with | [_], _ => rfl
  have F6 := fun_mk (st := s_worked) l6 c6 k6
  have b6 := F6.binds (ps := ["nexts", "known"]) fun _ _ _ _ _ _ us hl => match us, hl with | [_, _], _ => rfl
  have F7 := fun_mk (st := s_law_cell_at) l7 c7 k7
  have b7 := F7.binds (ps := ["_law_script", "_law_k"]) fun _ _ _ _ _ _ us hl => match us, hl with | [_, _], _ => rfl
  have F8 := fun_mk (st := s_law_known) l8 c8 k8
  have b8 := F8.binds (ps := ["_law_cell"]) fun _ _ _ _ _ _ us hl => match us, hl with | [_], _ => rfl
  have F9 := fun_mk (st := s_law_nexts) l9 c9 k9
  have b9 := F9.binds (ps := ["_law_cell", "_law_at", "_law_many", "_law_is_near"]) fun _ _ _ _ _ _ us hl => match us, hl with | [_, _, _, _], _ => rfl
  have F10 := fun_mk (st := s_law_net) l10 c10 k10
  have b10 := F10.binds (ps := ["_law_script"]) fun _ _ _ _ _ _ us hl => match us, hl with | [_], _ => rfl
  have F11 := fun_mk (st := s_law_follows) l11 c11 k11
  have b11 := F11.binds (ps := ["_law_words"]) fun _ _ _ _ _ _ us hl => match us, hl with | [_], _ => rfl
  have F12 := fun_mk (st := s_law_is_word) l12 c12 k12
  have b12 := F12.binds (ps := ["_law_word"]) fun _ _ _ _ _ _ us hl => match us, hl with | [_], _ => rfl
  have F13 := fun_mk (st := s_law) l13 c13 k13
  have b13 := F13.binds (ps := ["_law_script"]) fun _ _ _ _ _ _ us hl => match us, hl with | [_], _ => rfl
  exact ⟨_, fun s v => .of_eq rfl, fun base _ _ => law_of (Γ := gam (K := K) (mg := mg) { d_comers := ⟨_, _, F0, PySem.W.mg_of X G a0, b0⟩, d_begun := ⟨_, _, F1, PySem.W.mg_of X G a1, b1⟩, d_Working__init_ := ⟨_, _, F2, b2⟩, d_Working_told := ⟨_, _, F3, b3⟩, d_Working_led := ⟨_, _, F4, b4⟩, d_Working_done := ⟨_, _, F5, b5⟩, d_worked := ⟨_, _, F6, PySem.W.mg_of X G a6, b6⟩, d_law_cell_at := ⟨_, _, F7, PySem.W.mg_of X G a7, b7⟩, d_law_known := ⟨_, _, F8, PySem.W.mg_of X G a8, b8⟩, d_law_nexts := ⟨_, _, F9, PySem.W.mg_of X G a9, b9⟩, d_law_net := ⟨_, _, F10, PySem.W.mg_of X G a10, b10⟩, d_law_follows := ⟨_, _, F11, PySem.W.mg_of X G a11, b11⟩, d_law_is_word := ⟨_, _, F12, PySem.W.mg_of X G a12, b12⟩, d_law := ⟨_, _, F13, PySem.W.mg_of X G a13, b13⟩, z_enumerate := PySem.W.mg_none_of X G z_enumerate, z_list := PySem.W.mg_none_of X G z_list, z_len := PySem.W.mg_none_of X G z_len, z_min := PySem.W.mg_none_of X G z_min, z_range := PySem.W.mg_none_of X G z_range, z_max := PySem.W.mg_none_of X G z_max, z_tuple := PySem.W.mg_none_of X G z_tuple, z_isinstance := PySem.W.mg_none_of X G z_isinstance, z_bool := PySem.W.mg_none_of X G z_bool, z_int := PySem.W.mg_none_of X G z_int, C_Working := C_Working, g_Working := PySem.W.mg_of X G aC_Working, cl_Working := ⟨pg_Working, hd_Working, po_Working, sa_Working⟩, mk_Working := ⟨mk_Working, a2, i2, kc_Working⟩, me_Working_told := ⟨a3, i3, k3⟩, me_Working_led := ⟨a4, i4, k4⟩, me_Working_done := ⟨a5, i5, k5⟩, na_Working_words := na_Working_words, na_Working_waits := na_Working_waits, na_Working_ahead := na_Working_ahead, na_Working_agenda := na_Working_agenda }) (.inl rfl) hden (ok_law { d_comers := ⟨_, _, F0, PySem.W.mg_of X G a0, b0⟩, d_begun := ⟨_, _, F1, PySem.W.mg_of X G a1, b1⟩, d_Working__init_ := ⟨_, _, F2, b2⟩, d_Working_told := ⟨_, _, F3, b3⟩, d_Working_led := ⟨_, _, F4, b4⟩, d_Working_done := ⟨_, _, F5, b5⟩, d_worked := ⟨_, _, F6, PySem.W.mg_of X G a6, b6⟩, d_law_cell_at := ⟨_, _, F7, PySem.W.mg_of X G a7, b7⟩, d_law_known := ⟨_, _, F8, PySem.W.mg_of X G a8, b8⟩, d_law_nexts := ⟨_, _, F9, PySem.W.mg_of X G a9, b9⟩, d_law_net := ⟨_, _, F10, PySem.W.mg_of X G a10, b10⟩, d_law_follows := ⟨_, _, F11, PySem.W.mg_of X G a11, b11⟩, d_law_is_word := ⟨_, _, F12, PySem.W.mg_of X G a12, b12⟩, d_law := ⟨_, _, F13, PySem.W.mg_of X G a13, b13⟩, z_enumerate := PySem.W.mg_none_of X G z_enumerate, z_list := PySem.W.mg_none_of X G z_list, z_len := PySem.W.mg_none_of X G z_len, z_min := PySem.W.mg_none_of X G z_min, z_range := PySem.W.mg_none_of X G z_range, z_max := PySem.W.mg_none_of X G z_max, z_tuple := PySem.W.mg_none_of X G z_tuple, z_isinstance := PySem.W.mg_none_of X G z_isinstance, z_bool := PySem.W.mg_none_of X G z_bool, z_int := PySem.W.mg_none_of X G z_int, C_Working := C_Working, g_Working := PySem.W.mg_of X G aC_Working, cl_Working := ⟨pg_Working, hd_Working, po_Working, sa_Working⟩, mk_Working := ⟨mk_Working, a2, i2, kc_Working⟩, me_Working_told := ⟨a3, i3, k3⟩, me_Working_led := ⟨a4, i4, k4⟩, me_Working_done := ⟨a5, i5, k5⟩, na_Working_words := na_Working_words, na_Working_waits := na_Working_waits, na_Working_ahead := na_Working_ahead, na_Working_agenda := na_Working_agenda })⟩
end Pr
open PySem PySem.W PyProof.Rows
set_option maxHeartbeats 0 in
set_option maxRecDepth 100000 in
theorem PySem.Challenge.cw_playboard_k23_whole_words_follow_holds : PySem.Challenge.rw_playboard_k23_whole_words_follow.Holds := by
  w_on; o_law; k_head; (case hw => w_witness2)
  k_fill
  refine L2.walk_ofK (l := PySem.Challenge.rw_playboard_k23_whole_words_follow) (n := 63) (k := 5) (x := "_law_script") (CX := L2.CX0) (sp := Dl.spLaw) rfl (by decide) rfl ⟨rfl, by decide, by decide⟩ (fun w h Y => PySem.W.kIn_of Y) ?F (fun _ _ a ns hl _ hS => ⟨a, ns, rfl, hS, hl, fun _ => rfl⟩) (fun _ _ _ _ h => h)
  case F =>
    intro w mg fa h KX G hmg
    refine' Pr.all_mk KX G hmg ?aC_Working ?pg_Working ?hd_Working ?po_Working ?sa_Working ?mk_Working ?kc_Working ?a0 ?l0 ?c0 ?k0 ?a1 ?l1 ?c1 ?k1 ?a2 ?i2 ?l2 ?c2 ?k2 ?a3 ?i3 ?l3 ?c3 ?k3 ?a4 ?i4 ?l4 ?c4 ?k4 ?a5 ?i5 ?l5 ?c5 ?k5 ?a6 ?l6 ?c6 ?k6 ?a7 ?l7 ?c7 ?k7 ?a8 ?l8 ?c8 ?k8 ?a9 ?l9 ?c9 ?k9 ?a10 ?l10 ?c10 ?k10 ?a11 ?l11 ?c11 ?k11 ?a12 ?l12 ?c12 ?k12 ?a13 ?l13 ?c13 ?k13 ?na_Working_words ?na_Working_waits ?na_Working_ahead ?na_Working_agenda ?z_enumerate ?z_list ?z_len ?z_min ?z_range ?z_max ?z_tuple ?z_isinstance ?z_bool ?z_int Pr.law_true
    (case aC_Working => k_is)
    (case pg_Working => k_is)
    (case hd_Working => k_is)
    (case po_Working => k_is)
    (case sa_Working => k_is)
    (case mk_Working => k_is)
    (case kc_Working => k_is)
    (case a0 => k_is)
    (case l0 => k_is)
    (case c0 => k_is)
    (case k0 => k_is)
    (case a1 => k_is)
    (case l1 => k_is)
    (case c1 => k_is)
    (case k1 => k_is)
    (case a2 => k_is)
    (case i2 => k_is)
    (case l2 => k_is)
    (case c2 => k_is)
    (case k2 => k_is)
    (case a3 => k_is)
    (case i3 => k_is)
    (case l3 => k_is)
    (case c3 => k_is)
    (case k3 => k_is)
    (case a4 => k_is)
    (case i4 => k_is)
    (case l4 => k_is)
    (case c4 => k_is)
    (case k4 => k_is)
    (case a5 => k_is)
    (case i5 => k_is)
    (case l5 => k_is)
    (case c5 => k_is)
    (case k5 => k_is)
    (case a6 => k_is)
    (case l6 => k_is)
    (case c6 => k_is)
    (case k6 => k_is)
    (case a7 => k_is)
    (case l7 => k_is)
    (case c7 => k_is)
    (case k7 => k_is)
    (case a8 => k_is)
    (case l8 => k_is)
    (case c8 => k_is)
    (case k8 => k_is)
    (case a9 => k_is)
    (case l9 => k_is)
    (case c9 => k_is)
    (case k9 => k_is)
    (case a10 => k_is)
    (case l10 => k_is)
    (case c10 => k_is)
    (case k10 => k_is)
    (case a11 => k_is)
    (case l11 => k_is)
    (case c11 => k_is)
    (case k11 => k_is)
    (case a12 => k_is)
    (case l12 => k_is)
    (case c12 => k_is)
    (case k12 => k_is)
    (case a13 => k_is)
    (case l13 => k_is)
    (case c13 => k_is)
    (case k13 => k_is)
    (case na_Working_words => k_is)
    (case na_Working_waits => k_is)
    (case na_Working_ahead => k_is)
    (case na_Working_agenda => k_is)
    (case z_enumerate => k_is)
    (case z_list => k_is)
    (case z_len => k_is)
    (case z_min => k_is)
    (case z_range => k_is)
    (case z_max => k_is)
    (case z_tuple => k_is)
    (case z_isinstance => k_is)
    (case z_bool => k_is)
    (case z_int => k_is)
