import PyProof.Rows.All
import Wide.All
import OpenK.AllK
import Wide.FinOn
import HandS.ForMost
import HandS.Exc
import HandS.ExcOwn
import HandS.WordsExc
import HandS.Wide
import HandS.WideBits
import HandS.Gcd
import HandS.IsInst
import HandS.Walk
import HandS.Lambda
import HandS.TupAny
import HandS.CallSlots
import HandS.Star
import KE.KMathG
import HandS.RaiseMore
import HandS.Style
import HandS.TryOnly
import HandS.Defaults
import KE.KExcInit
import KE.KExcMake
import HandS.ExcField
import HandS.ExcIs
import HandS.CallLocal
import KE.KExcIs
import HandS.Ends
import HandS.EndBits
import HandS.HeadHook1
import HandS.HeadHook2
import KE.KNestM
import HandS.Conv
import PyProof.ReprLen
import PyProof.Rows.ReprOcc
import KE.KStateDown
import HandS.Head3
import HandS.HeadEnd
import PySem.Challenge.RW_everyquantity_k02_products_powers_and_su
import KE.BitLaws
set_option Elab.async false
set_option linter.all false
set_option maxRecDepth 100000
set_option maxHeartbeats 0
namespace DL
open PySem PySem.Spec L2

/-- plain data: what a value is, the heap left out -/
inductive D where
  | non
  | bl (b : Bool)
  | int (i : Int)
  | str (x : Str)
  | ty (n : String)
  | tup (l : List D)
  | lst (l : List D)
  | fz (l : List D)
  | own (n : Nat)
  | adr (a : Addr)
  | lam (f c : Addr) (q : Str) (ds : List D) (vs : List V)
  | err (a dd : Addr) (cls : Str) (d : D)

/-- an owned object -/
inductive MO where
  | lst (l : List D)
  | dct (l : List (Key × D))

abbrev Mem := List (Option MO)
abbrev Env := List (Option D)

/-- an exception: its class's name, its thing -/
structure Exn where
  cls : Str
  thing : D

inductive Res (β : Type) where
  | ok (b : β) (M : Mem)
  | exc (e : Exn) (M : Mem)
  | bad

def Res.bind {β γ : Type} (r : Res β) (k : β → Mem → Res γ) : Res γ := match r with
  | .ok b M => k b M
  | .exc e M => .exc e M
  | .bad => .bad

inductive SR where
  | nx (ρ : Env) (M : Mem)
  | rt (d : D) (M : Mem)
  | bk (ρ : Env) (M : Mem)
  | ct (ρ : Env) (M : Mem)
  | exc (e : Exn) (ρ : Env) (M : Mem)
  | bad

/-- a view: the owned objects' addresses and what they hold, the objects that stand hidden, the heap -/
structure Vw where
  al : List Addr
  M : Mem
  S : List Addr
  H : Hp
  T : List (Addr × Str)

def Vw.hid (w : Vw) (a : Addr) : Prop := a ∈ w.S ∨ (∃ (n : Nat) (o : MO), w.al[n]? = some a ∧ w.M[n]? = some (some o)) ∨ ∃ ps, w.H a = some (.tbl ps)
open Classical in
noncomputable def Vw.vis (w : Vw) : Hp := fun a => if w.hid a then none else w.H a
theorem vis_some {w : Vw} {a : Addr} {o : HO} : w.vis a = some o ↔ w.H a = some o ∧ ¬ w.hid a := by
  unfold Vw.vis
  by_cases h : w.hid a
  · rw [if_pos h]
    exact ⟨fun z => (nomatch z), fun z => absurd h z.2⟩
  · rw [if_neg h]
    exact ⟨fun z => ⟨z, h⟩, fun z => z.1⟩

mutual
def Rep (K : PySem.W.Frag) (al : List Addr) (F : Hp) : D → V → Prop
  | .non, v => v = .non
  | .bl b, v => v = .bl b
  | .int i, v => v = .int i
  | .str x, v => v = .str x
  | .ty n, v => v = .ty n
  | .tup ds, v => ∃ a xs, v = .ref a ∧ SqT K F a xs ∧ RepL K al F ds xs
  | .lst ds, v => ∃ a xs, v = .ref a ∧ F a = some (.lst xs) ∧ RepL K al F ds xs
  | .fz ds, v => ∃ a xs, v = .ref a ∧ SqL K F a xs ∧ RepL K al F ds xs
  | .own n, v => ∃ a, v = .ref a ∧ al[n]? = some a
  | .adr a, v => v = .ref a
  | .lam f c q ds vs, v => v = .ref f ∧ F c = some (LamX.CodeO c q) ∧ RepL K al F ds vs
  | .err a dd _ d, v => v = .ref a ∧ ∃ u, F dd = some (.xd [(("thing" : Str), u)]) ∧ Rep K al F d u
def RepL (K : PySem.W.Frag) (al : List Addr) (F : Hp) : List D → List V → Prop
  | [], vs => vs = []
  | d :: ds, vs => ∃ v r, vs = v :: r ∧ Rep K al F d v ∧ RepL K al F ds r
end

def Sub (F F' : Hp) : Prop := ∀ a o, F a = some o → F' a = some o
theorem Sub.refl (F : Hp) : Sub F F := fun _ _ h => h
theorem Sub.trans {F G J : Hp} (a : Sub F G) (b : Sub G J) : Sub F J := fun c o h => b c o (a c o h)
theorem Sub.rd {F F' : Hp} {a : Addr} {u : HO} (s : Sub F F') (r : Rd F a u) : Rd F' a u := by
  rcases r with r | ⟨o, r⟩
  · exact .inl (s _ _ r)
  · exact .inr ⟨o, s _ _ r⟩
theorem Sub.sqT {K : PySem.W.Frag} {F F' : Hp} {a : Addr} {xs : List V} (s : Sub F F') (r : SqT K F a xs) : SqT K F' a xs := by
  rcases r with r | r
  · exact .inl (s.rd r)
  · exact .inr r
theorem Sub.sqL {K : PySem.W.Frag} {F F' : Hp} {a : Addr} {xs : List V} (s : Sub F F') (r : SqL K F a xs) : SqL K F' a xs := by
  rcases r with r | r
  · exact .inl (s.rd r)
  · exact .inr r
theorem vis_sub (w : Vw) : Sub w.vis w.H := fun a o h => (vis_some.mp h).1

section
variable {K : PySem.W.Frag} {al al' : List Addr} {F F' : Hp}
theorem pre_get {α : Type} {l l' : List α} (h : l <+: l') {n : Nat} {a : α} (e : l[n]? = some a) : l'[n]? = some a := by
  obtain ⟨t, rfl⟩ := h
  obtain ⟨hn, e'⟩ := List.getElem?_eq_some_iff.mp e
  rw [List.getElem?_append_left hn]
  exact e
mutual
theorem Rep.mono (hp : al <+: al') (hs : Sub F F') : ∀ {d : D} {v : V}, Rep K al F d v → Rep K al' F' d v
  | .non, _, h => by simp only [Rep] at h ⊢; exact h
  | .bl _, _, h => by simp only [Rep] at h ⊢; exact h
  | .int _, _, h => by simp only [Rep] at h ⊢; exact h
  | .str _, _, h => by simp only [Rep] at h ⊢; exact h
  | .ty _, _, h => by simp only [Rep] at h ⊢; exact h
  | .adr _, _, h => by simp only [Rep] at h ⊢; exact h
  | .lam _ _ _ ds _, _, h => by
    simp only [Rep] at h ⊢
    exact ⟨h.1, hs _ _ h.2.1, RepL.mono hp hs h.2.2⟩
  | .err _ _ _ d, _, h => by
    simp only [Rep] at h ⊢
    obtain ⟨e, u, s, r⟩ := h
    exact ⟨e, u, hs _ _ s, Rep.mono hp hs r⟩
  | .tup ds, _, h => by
    simp only [Rep] at h ⊢
    obtain ⟨a, xs, e, s, r⟩ := h
    exact ⟨a, xs, e, hs.sqT s, RepL.mono hp hs r⟩
  | .lst ds, _, h => by
    simp only [Rep] at h ⊢
    obtain ⟨a, xs, e, s, r⟩ := h
    exact ⟨a, xs, e, hs _ _ s, RepL.mono hp hs r⟩
  | .fz ds, _, h => by
    simp only [Rep] at h ⊢
    obtain ⟨a, xs, e, s, r⟩ := h
    exact ⟨a, xs, e, hs.sqL s, RepL.mono hp hs r⟩
  | .own n, _, h => by
    simp only [Rep] at h ⊢
    obtain ⟨a, e, s⟩ := h
    exact ⟨a, e, pre_get hp s⟩
theorem RepL.mono (hp : al <+: al') (hs : Sub F F') : ∀ {ds : List D} {vs : List V}, RepL K al F ds vs → RepL K al' F' ds vs
  | [], _, h => by simp only [RepL] at h ⊢; exact h
  | d :: ds, _, h => by
    simp only [RepL] at h ⊢
    obtain ⟨v, r, e, h1, h2⟩ := h
    exact ⟨v, r, e, Rep.mono hp hs h1, RepL.mono hp hs h2⟩
end
theorem repL_nil : RepL K al F [] [] := by simp only [RepL]
theorem repL_cons {d : D} {v : V} {ds : List D} {vs : List V} (h : Rep K al F d v) (t : RepL K al F ds vs) : RepL K al F (d :: ds) (v :: vs) := by
  simp only [RepL]
  exact ⟨v, vs, rfl, h, t⟩
theorem repL_iff : ∀ {ds : List D} {vs : List V}, RepL K al F ds vs ↔ ds.length = vs.length ∧ ∀ (i : Nat) d v, ds[i]? = some d → vs[i]? = some v → Rep K al F d v
  | [], vs => by
    simp only [RepL]
    constructor
    · rintro rfl
      exact ⟨rfl, fun i d v h => by simp at h⟩
    · rintro ⟨h, _⟩
      exact List.eq_nil_of_length_eq_zero h.symm
  | d :: ds, vs => by
    simp only [RepL]
    constructor
    · rintro ⟨v, r, rfl, h1, h2⟩
      obtain ⟨e, h3⟩ := repL_iff.mp h2
      refine ⟨by simp [e], fun i => ?_⟩
      cases i with
      | zero =>
        intro d' v' e1 e2
        simp at e1 e2
        subst e1 e2
        exact h1
      | succ i =>
        intro d' v' e1 e2
        exact h3 i d' v' (by simpa using e1) (by simpa using e2)
    · rintro ⟨e, h⟩
      cases vs with
      | nil => simp at e
      | cons v r => exact ⟨v, r, rfl, h 0 d v rfl rfl, repL_iff.mpr ⟨by simpa using e, fun i d' v' e1 e2 => h (i + 1) d' v' (by simpa using e1) (by simpa using e2)⟩⟩
theorem RepL.length {ds : List D} {vs : List V} (h : RepL K al F ds vs) : ds.length = vs.length := (repL_iff.mp h).1
theorem RepL.get {ds : List D} {vs : List V} (h : RepL K al F ds vs) {i : Nat} {d : D} (e : ds[i]? = some d) : ∃ v, vs[i]? = some v ∧ Rep K al F d v := by
  obtain ⟨hl, h2⟩ := repL_iff.mp h
  obtain ⟨hi, _⟩ := List.getElem?_eq_some_iff.mp e
  have hi' : i < vs.length := by omega
  exact ⟨vs[i], by simp [hi'], h2 i d _ e (by simp [hi'])⟩
theorem RepL.append : ∀ {ds es : List D} {vs us : List V}, RepL K al F ds vs → RepL K al F es us → RepL K al F (ds ++ es) (vs ++ us)
  | [], _, _, _, h, h2 => by
    simp only [RepL] at h
    subst h
    exact h2
  | d :: ds, _, _, _, h, h2 => by
    simp only [RepL] at h
    obtain ⟨v, r, rfl, h3, h4⟩ := h
    exact repL_cons h3 (RepL.append h4 h2)
theorem RepL.drop {ds : List D} {vs : List V} (h : RepL K al F ds vs) (n : Nat) : RepL K al F (ds.drop n) (vs.drop n) := by
  obtain ⟨hl, h2⟩ := repL_iff.mp h
  refine repL_iff.mpr ⟨by simp [hl], fun i d v e1 e2 => h2 (n + i) d v ?_ ?_⟩
  · simpa [List.getElem?_drop] using e1
  · simpa [List.getElem?_drop] using e2
theorem RepL.take {ds : List D} {vs : List V} (h : RepL K al F ds vs) (n : Nat) : RepL K al F (ds.take n) (vs.take n) := by
  obtain ⟨hl, h2⟩ := repL_iff.mp h
  refine repL_iff.mpr ⟨by simp [hl], fun i d v e1 e2 => ?_⟩
  rw [List.getElem?_take] at e1 e2
  split at e1
  · rw [if_pos (by assumption)] at e2
    exact h2 i d v e1 e2
  · cases e1
theorem RepL.reverse {ds : List D} {vs : List V} (h : RepL K al F ds vs) : RepL K al F ds.reverse vs.reverse := by
  induction ds generalizing vs with
  | nil =>
    simp only [RepL] at h
    subst h
    exact repL_nil
  | cons d ds ih =>
    simp only [RepL] at h
    obtain ⟨v, r, rfl, h3, h4⟩ := h
    rw [List.reverse_cons, List.reverse_cons]
    exact (ih h4).append (repL_cons h3 repL_nil)
theorem RepL.dropLast {ds : List D} {vs : List V} (h : RepL K al F ds vs) : RepL K al F ds.dropLast vs.dropLast := by
  rw [List.dropLast_eq_take, List.dropLast_eq_take, h.length]
  exact h.take _
theorem RepL.eraseIdx {ds : List D} {vs : List V} (h : RepL K al F ds vs) (i : Nat) : RepL K al F (ds.eraseIdx i) (vs.eraseIdx i) := by
  rw [List.eraseIdx_eq_take_drop_succ, List.eraseIdx_eq_take_drop_succ]
  exact (h.take i).append (h.drop (i + 1))
theorem RepL.set {ds : List D} {vs : List V} (h : RepL K al F ds vs) (i : Nat) {d : D} {v : V} (r : Rep K al F d v) : RepL K al F (ds.set i d) (vs.set i v) := by
  obtain ⟨hl, h2⟩ := repL_iff.mp h
  refine repL_iff.mpr ⟨by simp [hl], fun j d' v' e1 e2 => ?_⟩
  by_cases hj : i = j
  · subst hj
    obtain ⟨hi, _⟩ := List.getElem?_eq_some_iff.mp e1
    rw [List.length_set] at hi
    rw [List.getElem?_set_self hi] at e1
    rw [List.getElem?_set_self (by omega)] at e2
    cases e1
    cases e2
    exact r
  · rw [List.getElem?_set_ne hj] at e1 e2
    exact h2 j d' v' e1 e2
theorem repL_ints (ns : List Int) : RepL K al F (ns.map D.int) (ns.map V.int) := by
  induction ns with
  | nil => exact repL_nil
  | cons n ns ih => exact repL_cons (by simp only [Rep]) ih
theorem repL_ints_inv : ∀ {ns : List Int} {vs : List V}, RepL K al F (ns.map D.int) vs → vs = ns.map V.int
  | [], vs, h => by
    simp only [List.map_nil, RepL] at h
    exact h
  | n :: ns, vs, h => by
    simp only [List.map_cons, RepL] at h
    obtain ⟨v, r, rfl, h1, h2⟩ := h
    simp only [Rep] at h1
    rw [h1, repL_ints_inv h2]
    rfl
end

/-- dict entries -/
def RepK (K : PySem.W.Frag) (al : List Addr) (F : Hp) : List (Key × D) → List (Key × V) → Prop
  | [], vs => vs = []
  | d :: ds, vs => ∃ v r, vs = v :: r ∧ d.1 = v.1 ∧ Rep K al F d.2 v.2 ∧ RepK K al F ds r
theorem RepK.mono {K : PySem.W.Frag} {al al' : List Addr} {F F' : Hp} (hp : al <+: al') (hs : Sub F F') : ∀ {ds : List (Key × D)} {vs : List (Key × V)}, RepK K al F ds vs → RepK K al' F' ds vs
  | [], _, h => h
  | d :: ds, _, h => by
    obtain ⟨v, r, e, h1, h2, h3⟩ := h
    exact ⟨v, r, e, h1, h2.mono hp hs, RepK.mono hp hs h3⟩

def RepO (K : PySem.W.Frag) (al : List Addr) (F : Hp) (o : Option HO) : MO → Prop
  | .lst ds => ∃ xs, o = some (.lst xs) ∧ RepL K al F ds xs
  | .dct ks => ∃ kvs, o = some (.dK kvs) ∧ RepK K al F ks kvs
theorem RepO.mono {K : PySem.W.Frag} {al al' : List Addr} {F F' : Hp} {o : Option HO} (hp : al <+: al') (hs : Sub F F') : ∀ {m : MO}, RepO K al F o m → RepO K al' F' o m
  | .lst _, ⟨xs, e, r⟩ => ⟨xs, e, r.mono hp hs⟩
  | .dct _, ⟨xs, e, r⟩ => ⟨xs, e, r.mono hp hs⟩

class TabsOf where
  T : List (Addr × Str)
variable [TabsOf]
structure WR (K : PySem.W.Frag) (w : Vw) : Prop where
  len : w.al.length = w.M.length
  nd : w.al.Nodup
  hs : ∀ a ∈ w.S, w.H a ≠ none
  hst : ∀ a ∈ w.S, ∀ ps, w.H a ≠ some (.tbl ps)
  hse : ∀ a ∈ w.S, ∀ φ, w.H a ≠ some (.ext φ)
  dj : ∀ (n : Nat) a o, w.al[n]? = some a → w.M[n]? = some (some o) → a ∉ w.S
  obj : ∀ (n : Nat) a o, w.al[n]? = some a → w.M[n]? = some (some o) → RepO K w.al w.vis (w.H a) o
  al0 : ∀ a ∈ w.al, w.H a ≠ none
  tabs : LamX.Tabs TabsOf.T w.H
  alt : ∀ a ∈ w.al, ∀ ps, w.H a ≠ some (.tbl ps)
  dja : ∀ a ∈ w.al, a ∉ w.S

/-- what comes behind: more owned objects, what was seen is seen, what was hidden stands -/
structure Ext (w w' : Vw) : Prop where
  al : w.al <+: w'.al
  vis : Sub w.vis w'.vis
  S : w'.S = w.S
  hid : ∀ a ∈ w.S, w'.H a = w.H a
  T : w'.T = w.T
theorem Ext.refl (w : Vw) : Ext w w := ⟨List.prefix_refl _, Sub.refl _, rfl, fun _ _ => rfl, rfl⟩
theorem Ext.trans {w w1 w2 : Vw} (a : Ext w w1) (b : Ext w1 w2) : Ext w w2 :=
  ⟨a.al.trans b.al, a.vis.trans b.vis, b.S.trans a.S, fun c hc => (b.hid c (by rw [a.S]; exact hc)).trans (a.hid c hc), b.T.trans a.T⟩

abbrev Rp (K : PySem.W.Frag) (w : Vw) (d : D) (v : V) : Prop := Rep K w.al w.vis d v
abbrev RpL (K : PySem.W.Frag) (w : Vw) (d : List D) (v : List V) : Prop := RepL K w.al w.vis d v
theorem Ext.rp {K : PySem.W.Frag} {w w' : Vw} (e : Ext w w') {d : D} {v : V} (r : Rp K w d v) : Rp K w' d v := Rep.mono e.al e.vis r
theorem Ext.rpL {K : PySem.W.Frag} {w w' : Vw} (e : Ext w w') {d : List D} {v : List V} (r : RpL K w d v) : RpL K w' d v := RepL.mono e.al e.vis r

structure Slots (K : PySem.W.Frag) (w : Vw) (ρ : Env) (σ : St) : Prop where
  len : ρ.length = σ.length
  at_ : ∀ (i : Nat) d, ρ[i]? = some (some d) → ∃ v, σ[i]? = some (some v) ∧ Rp K w d v
theorem Ext.slots {K : PySem.W.Frag} {w w' : Vw} (e : Ext w w') {ρ : Env} {σ : St} (s : Slots K w ρ σ) : Slots K w' ρ σ :=
  ⟨s.len, fun i d h => let ⟨v, h1, h2⟩ := s.at_ i d h; ⟨v, h1, e.rp h2⟩⟩
theorem Slots.set {K : PySem.W.Frag} {w : Vw} {ρ : Env} {σ : St} (s : Slots K w ρ σ) (i : Nat) {d : D} {v : V} (r : Rp K w d v) : Slots K w (ρ.set i (some d)) (σ.set i (some v)) := by
  refine ⟨by simp [s.len], fun j d' h => ?_⟩
  by_cases hj : i = j
  · subst hj
    obtain ⟨hi, _⟩ := List.getElem?_eq_some_iff.mp h
    rw [List.length_set] at hi
    rw [List.getElem?_set_self hi] at h
    cases h
    exact ⟨v, by rw [List.getElem?_set_self (by rw [← s.len]; exact hi)], r⟩
  · rw [List.getElem?_set_ne hj] at h
    obtain ⟨v', h1, h2⟩ := s.at_ j d' h
    exact ⟨v', by rw [List.getElem?_set_ne hj]; exact h1, h2⟩
theorem Slots.none {K : PySem.W.Frag} {w : Vw} {ρ : Env} {σ : St} (s : Slots K w ρ σ) (i : Nat) {o : Option V} : Slots K w (ρ.set i none) (σ.set i o) := by
  refine ⟨by simp [s.len], fun j d' h => ?_⟩
  by_cases hj : i = j
  · subst hj
    obtain ⟨hi, _⟩ := List.getElem?_eq_some_iff.mp h
    rw [List.length_set] at hi
    rw [List.getElem?_set_self hi] at h
    cases h
  · rw [List.getElem?_set_ne hj] at h
    obtain ⟨v', h1, h2⟩ := s.at_ j d' h
    exact ⟨v', by rw [List.getElem?_set_ne hj]; exact h1, h2⟩

theorem tabs_new {T : List (Addr × Str)} {H : Hp} {p : Addr} {o : HO} (t : LamX.Tabs T H) (hp : H p = none) : LamX.Tabs T (upd H p o) := t.ext fun b u h => by
  rw [upd_ne fun e => by rw [e, hp] at h; cases h]
  exact h
theorem tabs_upd {T : List (Addr × Str)} {H : Hp} {p : Addr} {o : HO} (t : LamX.Tabs T H) (h1 : ∀ ps, H p ≠ some (.tbl ps)) (h2 : ∀ φ, H p ≠ some (.ext φ)) : LamX.Tabs T (upd H p o) := fun q hq => by
  obtain ⟨ps, e1, e2, e3⟩ := t q hq
  refine ⟨ps, ?_, e2, fun pos cv hc => ?_⟩
  · rw [upd_ne (show q.1 ≠ p from fun e => h1 ps (e ▸ e1))]
    exact e1
  · obtain ⟨c, e4, e5⟩ := e3 pos cv hc
    exact ⟨c, e4, by rw [upd_ne (show c ≠ p from fun e => h2 _ (e ▸ e5))]; exact e5⟩
theorem alt_upd {l : List Addr} {H : Hp} {p : Addr} {o : HO} (h : ∀ a ∈ l, ∀ ps, H a ≠ some (.tbl ps)) (ho : ∀ ps, o ≠ .tbl ps) : ∀ a ∈ l, ∀ ps, upd H p o a ≠ some (.tbl ps) := fun a ha ps z => by
  by_cases e : a = p
  · rw [e, upd_same] at z
    exact ho ps (Option.some.inj z)
  · rw [upd_ne e] at z
    exact h a ha ps z
theorem alt_app {l : List Addr} {H : Hp} {p : Addr} {o : HO} (h : ∀ a ∈ l, ∀ ps, H a ≠ some (.tbl ps)) (ho : ∀ ps, o ≠ .tbl ps) : ∀ a ∈ l ++ [p], ∀ ps, upd H p o a ≠ some (.tbl ps) := fun a ha ps z => by
  by_cases e : a = p
  · rw [e, upd_same] at z
    exact ho ps (Option.some.inj z)
  · rw [upd_ne e] at z
    exact h a ((List.mem_append.mp ha).resolve_right fun k => e (List.mem_singleton.mp k)) ps z
/-! ### steps of a view -/
section
variable {K : PySem.W.Frag} {w : Vw}
/-- a new object that is not owned -/
theorem lay (wr : WR K w) {p : Addr} (hp : w.H p = none) (o : HO) (ho : ∀ ps, o ≠ .tbl ps) : Ext w { w with H := upd w.H p o } ∧ WR K { w with H := upd w.H p o } ∧ ({ w with H := upd w.H p o } : Vw).vis p = some o := by
  have hn : ∀ a, w.H a ≠ none → a ≠ p := fun a h e => by rw [e] at h; exact h hp
  have hH : ∀ a, a ≠ p → upd w.H p o a = w.H a := fun a h => upd_ne h
  have hhid : ∀ a, a ≠ p → (({ w with H := upd w.H p o } : Vw).hid a ↔ w.hid a) := fun a h => by
    unfold Vw.hid
    show _ ∨ _ ∨ (∃ ps, upd w.H p o a = some (.tbl ps)) ↔ _
    rw [hH a h]
  have hsub : Sub w.vis ({ w with H := upd w.H p o } : Vw).vis := fun a u h => by
    obtain ⟨h1, h2⟩ := vis_some.mp h
    have hap := hn a (by rw [h1]; exact fun z => nomatch z)
    exact vis_some.mpr ⟨by show upd w.H p o a = _; rw [hH a hap]; exact h1, fun z => h2 ((hhid a hap).mp z)⟩
  have hS : ∀ a ∈ w.S, upd w.H p o a = w.H a := fun a ha => hH a (hn a (wr.hs a ha))
  refine ⟨⟨List.prefix_refl _, hsub, rfl, hS, rfl⟩, ⟨wr.len, wr.nd, fun a ha => ?_, fun a ha ps z => wr.hst a ha ps ((hS a ha).symm.trans z), fun a ha ps z => wr.hse a ha ps ((hS a ha).symm.trans z), wr.dj, fun n a u e1 e2 => ?_, fun a ha => ?_, tabs_new wr.tabs hp, alt_upd wr.alt ho, wr.dja⟩, vis_some.mpr ⟨upd_same, ?_⟩⟩
  · show upd w.H p o a ≠ none
    rw [hH a (hn a (wr.hs a ha))]
    exact wr.hs a ha
  · have h1 := wr.obj n a u e1 e2
    have hap : a ≠ p := hn a (wr.al0 a (List.mem_of_getElem? e1))
    show RepO K w.al _ (upd w.H p o a) u
    rw [hH a hap]
    exact h1.mono (List.prefix_refl _) hsub
  · show upd w.H p o a ≠ none
    rw [hH a (hn a (wr.al0 a ha))]
    exact wr.al0 a ha
  · rintro (h | ⟨n, u, h, _⟩ | ⟨ps, h⟩)
    · exact wr.hs p h hp
    · exact wr.al0 p (List.mem_of_getElem? h) hp
    · have h' : upd w.H p o p = some (.tbl ps) := h
      rw [upd_same] at h'
      exact ho ps (Option.some.inj h')
/-- a new owned object -/
theorem owned (wr : WR K w) {p : Addr} (hp : w.H p = none) (o : HO) (ho : ∀ ps, o ≠ .tbl ps) (m : MO) (hm : RepO K w.al w.vis (some o) m) :
    Ext w { w with al := w.al ++ [p], M := w.M ++ [some m], H := upd w.H p o } ∧ WR K { w with al := w.al ++ [p], M := w.M ++ [some m], H := upd w.H p o } := by
  have hn : ∀ a, w.H a ≠ none → a ≠ p := fun a h e => by rw [e] at h; exact h hp
  have hH : ∀ a, a ≠ p → upd w.H p o a = w.H a := fun a h => upd_ne h
  have hpal : p ∉ w.al := fun h => wr.al0 p h hp
  have hget : ∀ (n : Nat) a u, (w.al ++ [p])[n]? = some a → (w.M ++ [some m])[n]? = some (some u) → (w.al[n]? = some a ∧ w.M[n]? = some (some u)) ∨ (a = p ∧ u = m) := fun n a u e1 e2 => by
    by_cases hl : n < w.al.length
    · rw [List.getElem?_append_left hl] at e1
      rw [List.getElem?_append_left (by rw [← wr.len]; exact hl)] at e2
      exact .inl ⟨e1, e2⟩
    · rw [List.getElem?_append_right (by omega)] at e1
      rw [List.getElem?_append_right (by rw [← wr.len]; omega)] at e2
      have h0 : n - w.al.length = 0 := by
        obtain ⟨h, _⟩ := List.getElem?_eq_some_iff.mp e1
        simp at h
        exact h
      have h0' : n - w.M.length = 0 := by rw [← wr.len]; exact h0
      rw [h0] at e1
      rw [h0'] at e2
      simp at e1 e2
      exact .inr ⟨e1.symm, e2.symm⟩
  have hhid : ∀ a, a ≠ p → (({ w with al := w.al ++ [p], M := w.M ++ [some m], H := upd w.H p o } : Vw).hid a → w.hid a) := fun a h z => by
    rcases z with z | ⟨n, u, e1, e2⟩ | ⟨ps, z⟩
    · exact .inl z
    · rcases hget n a u e1 e2 with ⟨e3, e4⟩ | ⟨e3, _⟩
      · exact .inr (.inl ⟨n, u, e3, e4⟩)
      · exact absurd e3 h
    · have z' : upd w.H p o a = some (.tbl ps) := z
      rw [hH a h] at z'
      exact .inr (.inr ⟨ps, z'⟩)
  have hsub : Sub w.vis ({ w with al := w.al ++ [p], M := w.M ++ [some m], H := upd w.H p o } : Vw).vis := fun a u h => by
    obtain ⟨h1, h2⟩ := vis_some.mp h
    have hap := hn a (by rw [h1]; exact fun z => nomatch z)
    exact vis_some.mpr ⟨by show upd w.H p o a = _; rw [hH a hap]; exact h1, fun z => h2 (hhid a hap z)⟩
  have hS : ∀ a ∈ w.S, upd w.H p o a = w.H a := fun a ha => hH a (hn a (wr.hs a ha))
  refine ⟨⟨List.prefix_append _ _, hsub, rfl, hS, rfl⟩, ⟨by simp [wr.len], ?_, fun a ha => ?_, fun a ha ps z => wr.hst a ha ps ((hS a ha).symm.trans z), fun a ha ps z => wr.hse a ha ps ((hS a ha).symm.trans z), fun n a u e1 e2 => ?_, fun n a u e1 e2 => ?_, fun a ha => ?_, tabs_new wr.tabs hp, alt_app wr.alt ho, fun b hb => (List.mem_append.mp hb).elim (wr.dja b) fun e z => wr.hs p (List.mem_singleton.mp e ▸ z) hp⟩⟩
  · refine List.nodup_append.mpr ⟨wr.nd, by simp, fun a ha b hb e => ?_⟩
    simp at hb
    subst hb
    subst e
    exact hpal ha
  · show upd w.H p o a ≠ none
    rw [hH a (hn a (wr.hs a ha))]
    exact wr.hs a ha
  · rcases hget n a u e1 e2 with ⟨e3, e4⟩ | ⟨e3, _⟩
    · exact wr.dj n a u e3 e4
    · subst e3
      exact fun h => wr.hs a h hp
  · rcases hget n a u e1 e2 with ⟨e3, e4⟩ | ⟨e3, e4⟩
    · have h1 := wr.obj n a u e3 e4
      have hap : a ≠ p := hn a (wr.al0 a (List.mem_of_getElem? e3))
      show RepO K _ _ (upd w.H p o a) u
      rw [hH a hap]
      exact h1.mono (List.prefix_append _ _) hsub
    · subst e3
      subst e4
      show RepO K _ _ (upd w.H a o a) u
      rw [upd_same]
      exact hm.mono (List.prefix_append _ _) hsub
  · show upd w.H p o a ≠ none
    rcases List.mem_append.mp ha with h | h
    · rw [hH a (hn a (wr.al0 a h))]
      exact wr.al0 a h
    · simp at h
      subst h
      rw [upd_same]
      exact fun z => nomatch z
theorem nd_ix {l : List Addr} (h : l.Nodup) {i j : Nat} {a : Addr} (e1 : l[i]? = some a) (e2 : l[j]? = some a) : i = j := by
  obtain ⟨h1, e1⟩ := List.getElem?_eq_some_iff.mp e1
  obtain ⟨h2, e2⟩ := List.getElem?_eq_some_iff.mp e2
  exact (List.getElem_inj h).mp (e1.trans e2.symm)
/-- an owned object is changed -/
theorem chg (wr : WR K w) {n : Nat} {a : Addr} {m0 : MO} (ea : w.al[n]? = some a) (em : w.M[n]? = some (some m0)) (o : HO) (ho : ∀ ps, o ≠ .tbl ps) (m : MO) (hm : RepO K w.al w.vis (some o) m) :
    Ext w { w with M := w.M.set n (some m), H := upd w.H a o } ∧ WR K { w with M := w.M.set n (some m), H := upd w.H a o } := by
  have hH : ∀ b, b ≠ a → upd w.H a o b = w.H b := fun b h => upd_ne h
  have hid0 : w.hid a := Or.inr (Or.inl ⟨n, m0, ea, em⟩)
  have hnt : ∀ ps, w.H a ≠ some (.tbl ps) := fun ps h => by
    have q := wr.obj n a m0 ea em
    rw [h] at q
    cases m0 with
    | lst l => obtain ⟨_, e, _⟩ := q; cases e
    | dct l => obtain ⟨_, e, _⟩ := q; cases e
  have hnM : n < w.M.length := (List.getElem?_eq_some_iff.mp em).1
  have hget : ∀ (k : Nat) u, (w.M.set n (some m))[k]? = some (some u) → (k = n ∧ u = m) ∨ (k ≠ n ∧ w.M[k]? = some (some u)) := fun k u e => by
    by_cases hk : n = k
    · subst hk
      rw [List.getElem?_set_self hnM] at e
      cases e
      exact .inl ⟨rfl, rfl⟩
    · rw [List.getElem?_set_ne hk] at e
      exact .inr ⟨fun z => hk z.symm, e⟩
  have hhid : ∀ b, b ≠ a → (({ w with M := w.M.set n (some m), H := upd w.H a o } : Vw).hid b → w.hid b) := fun b h z => by
    rcases z with z | ⟨k, u, e1, e2⟩ | ⟨ps, z⟩
    · exact .inl z
    · rcases hget k u e2 with ⟨e3, _⟩ | ⟨_, e3⟩
      · subst e3
        have e1' : w.al[k]? = some b := e1
        rw [ea] at e1'
        exact absurd (Option.some.inj e1').symm h
      · exact .inr (.inl ⟨k, u, e1, e3⟩)
    · have z' : upd w.H a o b = some (.tbl ps) := z
      rw [hH b h] at z'
      exact .inr (.inr ⟨ps, z'⟩)
  have hsub : Sub w.vis ({ w with M := w.M.set n (some m), H := upd w.H a o } : Vw).vis := fun b u h => by
    obtain ⟨h1, h2⟩ := vis_some.mp h
    have hb : b ≠ a := fun e => h2 (e ▸ hid0)
    exact vis_some.mpr ⟨by show upd w.H a o b = _; rw [hH b hb]; exact h1, fun z => h2 (hhid b hb z)⟩
  have hne : ∀ φ, w.H a ≠ some (.ext φ) := fun φ h => by
    have q := wr.obj n a m0 ea em
    rw [h] at q
    cases m0 with
    | lst l => obtain ⟨_, e, _⟩ := q; cases e
    | dct l => obtain ⟨_, e, _⟩ := q; cases e
  have hS : ∀ b ∈ w.S, upd w.H a o b = w.H b := fun b hb => hH b fun e => wr.dj n a m0 ea em (e ▸ hb)
  refine ⟨⟨List.prefix_refl _, hsub, rfl, hS, rfl⟩, ⟨by simp [wr.len], wr.nd, fun b hb => ?_, fun b hb ps z => wr.hst b hb ps ((hS b hb).symm.trans z), fun b hb ps z => wr.hse b hb ps ((hS b hb).symm.trans z), fun k b u e1 e2 => ?_, fun k b u e1 e2 => ?_, fun b hb => ?_, tabs_upd wr.tabs hnt hne, alt_upd wr.alt ho, wr.dja⟩⟩
  · show upd w.H a o b ≠ none
    by_cases e : b = a
    · subst e
      rw [upd_same]
      exact fun z => nomatch z
    · rw [hH b e]
      exact wr.hs b hb
  · rcases hget k u e2 with ⟨e3, _⟩ | ⟨_, e3⟩
    · subst e3
      exact wr.dj k b m0 e1 em
    · exact wr.dj k b u e1 e3
  · rcases hget k u e2 with ⟨e3, e4⟩ | ⟨e3, e4⟩
    · subst e3
      subst e4
      have e1' : w.al[k]? = some b := e1
      rw [ea] at e1'
      have eb : a = b := Option.some.inj e1'
      subst eb
      show RepO K _ _ (upd w.H a o a) u
      rw [upd_same]
      exact hm.mono (List.prefix_refl _) hsub
    · have hb : b ≠ a := fun e => e3 (nd_ix wr.nd (show w.al[k]? = some a from e ▸ e1) ea)
      show RepO K _ _ (upd w.H a o b) u
      rw [hH b hb]
      exact (wr.obj k b u e1 e4).mono (List.prefix_refl _) hsub
  · show upd w.H a o b ≠ none
    by_cases e : b = a
    · subst e
      rw [upd_same]
      exact fun z => nomatch z
    · rw [hH b e]
      exact wr.al0 b hb
/-- an owned object is let go: it is seen from now on -/
theorem frz_ (wr : WR K w) {n : Nat} {a : Addr} {m0 : MO} (ea : w.al[n]? = some a) (em : w.M[n]? = some (some m0)) :
    Ext w { w with M := w.M.set n none } ∧ WR K { w with M := w.M.set n none } ∧ ({ w with M := w.M.set n none } : Vw).vis a = w.H a := by
  have hnM : n < w.M.length := (List.getElem?_eq_some_iff.mp em).1
  have hget : ∀ (k : Nat) u, (w.M.set n none)[k]? = some (some u) → k ≠ n ∧ w.M[k]? = some (some u) := fun k u e => by
    by_cases hk : n = k
    · subst hk
      rw [List.getElem?_set_self hnM] at e
      cases e
    · rw [List.getElem?_set_ne hk] at e
      exact ⟨fun z => hk z.symm, e⟩
  have hhid : ∀ b, (({ w with M := w.M.set n none } : Vw).hid b → w.hid b) := fun b z => by
    rcases z with z | ⟨k, u, e1, e2⟩ | z
    · exact .inl z
    · exact .inr (.inl ⟨k, u, e1, (hget k u e2).2⟩)
    · exact .inr (.inr z)
  have hsub : Sub w.vis ({ w with M := w.M.set n none } : Vw).vis := fun b u h => by
    obtain ⟨h1, h2⟩ := vis_some.mp h
    exact vis_some.mpr ⟨h1, fun z => h2 (hhid b z)⟩
  have hnt : ∀ ps, w.H a ≠ some (.tbl ps) := fun ps h => by
    have q := wr.obj n a m0 ea em
    rw [h] at q
    cases m0 with
    | lst l => obtain ⟨_, e, _⟩ := q; cases e
    | dct l => obtain ⟨_, e, _⟩ := q; cases e
  refine ⟨⟨List.prefix_refl _, hsub, rfl, fun b hb => rfl, rfl⟩, ⟨by simp [wr.len], wr.nd, wr.hs, wr.hst, wr.hse, fun k b u e1 e2 => wr.dj k b u e1 (hget k u e2).2, fun k b u e1 e2 => (wr.obj k b u e1 (hget k u e2).2).mono (List.prefix_refl _) hsub, wr.al0, wr.tabs, wr.alt, wr.dja⟩, ?_⟩
  have nh : ¬ ({ w with M := w.M.set n none } : Vw).hid a := by
    rintro (z | ⟨k, u, e1, e2⟩ | ⟨ps, z⟩)
    · exact wr.dj n a m0 ea em z
    · have e1' : w.al[k]? = some a := e1
      exact (hget k u e2).1 (nd_ix wr.nd e1' ea)
    · exact hnt ps z
  unfold Vw.vis
  rw [if_neg nh]
end
end DL
namespace DL
open PySem PySem.Spec L2

variable [TabsOf]
/-! ### what comes behind a result -/
def Aft {β : Type} (K : PySem.W.Frag) (mg : Str → Option Value) (w : Vw) (r : Res β) (Q : Vw → β → Prop) (E : XK) : Prop := match r with
  | .ok d M' => ∀ w', Ext w w' → w'.M = M' → WR K w' → Q w' d
  | .exc e M' => ∀ w' (C dx : Addr) v, Ext w w' → w'.M = M' → WR K w' → mg e.cls = some (.ref C) → w'.vis dx = some (.xd [(("thing" : Str), v)]) → Rp K w' e.thing v → E (.ref C) (some dx) w'.H
  | .bad => False
def AftS (K : PySem.W.Frag) (mg : Str → Option Value) (w : Vw) (r : SR) (W : WX) (D : Ends) : Prop := match r with
  | .nx ρ' M' => ∀ w' σ', Ext w w' → w'.M = M' → WR K w' → Slots K w' ρ' σ' → D.nx σ' w'.H
  | .bk ρ' M' => ∀ w' σ', Ext w w' → w'.M = M' → WR K w' → Slots K w' ρ' σ' → D.bk σ' w'.H
  | .ct ρ' M' => ∀ w' σ', Ext w w' → w'.M = M' → WR K w' → Slots K w' ρ' σ' → D.ct σ' w'.H
  | .rt d M' => ∀ w' v, Ext w w' → w'.M = M' → WR K w' → Rp K w' d v → D.rt v w'.H
  | .exc e ρ' M' => ∀ w' σ' (C dx : Addr) v, Ext w w' → w'.M = M' → WR K w' → Slots K w' ρ' σ' → mg e.cls = some (.ref C) → w'.vis dx = some (.xd [(("thing" : Str), v)]) → Rp K w' e.thing v → W (.ref C) (some dx) σ' w'.H
  | .bad => False
section
variable {K : PySem.W.Frag} {mg : Str → Option Value} {w w1 : Vw} {E : XK} {W : WX} {D : Ends}
theorem Aft.ext {β : Type} {r : Res β} {Q : Vw → β → Prop} (h : Aft K mg w r Q E) (e : Ext w w1) : Aft K mg w1 r Q E := by
  cases r with
  | ok d M' => exact fun w' e' m wr => h w' (e.trans e') m wr
  | exc x M' => exact fun w' C dx v e' m wr hm hd r => h w' C dx v (e.trans e') m wr hm hd r
  | bad => exact h
theorem AftS.ext {r : SR} (h : AftS K mg w r W D) (e : Ext w w1) : AftS K mg w1 r W D := by
  cases r with
  | nx ρ' M' => exact fun w' σ' e' m wr sl => h w' σ' (e.trans e') m wr sl
  | bk ρ' M' => exact fun w' σ' e' m wr sl => h w' σ' (e.trans e') m wr sl
  | ct ρ' M' => exact fun w' σ' e' m wr sl => h w' σ' (e.trans e') m wr sl
  | rt d M' => exact fun w' v e' m wr r => h w' v (e.trans e') m wr r
  | exc x ρ' M' => exact fun w' σ' C dx v e' m wr sl hm hd r => h w' σ' C dx v (e.trans e') m wr sl hm hd r
  | bad => exact h
theorem Aft.here {β : Type} {d : β} {Q : Vw → β → Prop} (h : Aft K mg w (.ok d w.M) Q E) (wr : WR K w) : Q w d := h w (Ext.refl w) rfl wr
theorem Aft.mono {β : Type} {r : Res β} {Q Q' : Vw → β → Prop} (h : Aft K mg w r Q E) (hq : ∀ w' d, Ext w w' → WR K w' → Q w' d → Q' w' d) : Aft K mg w r Q' E := by
  cases r with
  | ok d M' => exact fun w' e' m wr => hq w' d e' wr (h w' e' m wr)
  | exc x M' => exact h
  | bad => exact h
end

/-! ### readings by denotations -/
section
variable (X : Cx) (W : WX)
def tR {β γ : Type} (rel : Vw → β → γ → Prop) (m : Env → Mem → Res β) : L2.St → Hp → (γ → Hp → Prop) → Prop := fun σ H Q =>
  ∃ w ρ, w.H = H ∧ WR X.K w ∧ Slots X.K w ρ σ ∧ Aft X.K X.mg w (m ρ w.M) (fun w' d => ∀ v, rel w' d v → Q v w'.H) (fun c dx H' => W c dx σ H')
abbrev tE (m : Env → Mem → Res D) : TE := tR X W (Rp X.K) m
abbrev tA (m : Env → Mem → Res (List D)) : TA := tR X W (RpL X.K) m
abbrev tT (m : Env → Mem → Res Bool) : TT := tR X W (fun _ (b v : Bool) => v = b) m
def IsPt (o : Option Int) (d : Option Int) : Prop := d = o
abbrev tO (m : Env → Mem → Res (Option Int)) : TO := tR X W (fun _ (b v : Option Int) => v = b) m
def tS (m : Env → Mem → SR) : TS := fun D σ H => ∃ w ρ, w.H = H ∧ WR X.K w ∧ Slots X.K w ρ σ ∧ AftS X.K X.mg w (m ρ w.M) W D
end
theorem PE.imp {X : Cx} {e : Expr} {t t' : TE} (h : PE X e t) (i : ∀ σ H Q, t' σ H Q → t σ H Q) : PE X e t' := ⟨fun pins s σ H Q I q => h.run pins s σ H Q I (i _ _ _ q)⟩
theorem PT.imp {X : Cx} {e : Expr} {t t' : TT} (h : PT X e t) (i : ∀ σ H Q, t' σ H Q → t σ H Q) : PT X e t' := ⟨fun pins s σ H Q I q => h.run pins s σ H Q I (i _ _ _ q)⟩
theorem PW.imp {X : Cx} {e : Expr} {t t' : TT} (h : PW X e t) (i : ∀ σ H Q, t' σ H Q → t σ H Q) : PW X e t' := ⟨fun wh pins s σ H Q I q => h.run wh pins s σ H Q I (i _ _ _ q)⟩
theorem PA.imp {X : Cx} {es : List Expr} {t t' : TA} (h : PA X es t) (i : ∀ σ H Q, t' σ H Q → t σ H Q) : PA X es t' := ⟨fun pos pins s σ H Q I q => h.run pos pins s σ H Q I (i _ _ _ q)⟩
theorem PO.imp {X : Cx} {e : Option Expr} {t t' : TO} (h : PO X e t) (i : ∀ σ H Q, t' σ H Q → t σ H Q) : PO X e t' := ⟨fun pins s σ H Q I q => h.run pins s σ H Q I (i _ _ _ q)⟩
theorem PS.imp {X : Cx} {st : Stmt} {t t' : TS} (h : PS X st t) (i : ∀ D σ H, t' D σ H → t D σ H) : PS X st t' := ⟨fun pins s σ H D I q => h.run pins s σ H D I (i _ _ _ q)⟩
theorem PSs.imp {X : Cx} {st : List Stmt} {t t' : TS} (h : PSs X st t) (i : ∀ D σ H, t' D σ H → t D σ H) : PSs X st t' := ⟨fun pins s σ H D I q => h.run pins s σ H D I (i _ _ _ q)⟩
theorem PG.imp {X : Cx} {e : Expr} {t t' : TG} (h : PG X e t) (i : ∀ v σ H Q, t' v σ H Q → t v σ H Q) : PG X e t' := ⟨fun pins s σ H v u Q I r q => h.run pins s σ H v u Q I r (i _ _ _ _ q)⟩

section
variable {X : Cx} {W : WX}
/-- THE STEP: a part of an expression, then the rest -/
theorem tR_step {β γ δ : Type} {rel : Vw → β → γ → Prop} {m : Env → Mem → Res β} {k : β → Mem → Res δ} {w : Vw} {ρ : Env} {σ : L2.St} {Q : Vw → δ → Prop} {G : γ → Hp → Prop} (wr : WR X.K w) (sl : Slots X.K w ρ σ)
    (h : Aft X.K X.mg w ((m ρ w.M).bind k) Q (fun c dx H' => W c dx σ H'))
    (hk : ∀ w' d v, Ext w w' → WR X.K w' → rel w' d v → Aft X.K X.mg w' (k d w'.M) Q (fun c dx H' => W c dx σ H') → G v w'.H) : tR X W rel m σ w.H G := by
  refine ⟨w, ρ, rfl, wr, sl, ?_⟩
  cases e : m ρ w.M with
  | ok d M' =>
    rw [e] at h
    intro w' ext hM wr' v hv
    exact hk w' d v ext wr' hv (by rw [hM]; exact Aft.ext h ext)
  | exc x M' =>
    rw [e] at h
    exact h
  | bad =>
    rw [e] at h
    exact h
def liftR {β : Type} (r : Res β) (ρ : Env) (k : β → Mem → SR) : SR := match r with
  | .ok d M => k d M
  | .exc x M => .exc x ρ M
  | .bad => .bad
/-- .. of a statement -/
theorem tR_stepS {β γ : Type} {rel : Vw → β → γ → Prop} {m : Env → Mem → Res β} {k : β → Mem → SR} {w : Vw} {ρ : Env} {σ : L2.St} {D : Ends} {G : γ → Hp → Prop} (wr : WR X.K w) (sl : Slots X.K w ρ σ)
    (h : AftS X.K X.mg w (liftR (m ρ w.M) ρ k) W D)
    (hk : ∀ w' d v, Ext w w' → WR X.K w' → Slots X.K w' ρ σ → rel w' d v → AftS X.K X.mg w' (k d w'.M) W D → G v w'.H) : tR X W rel m σ w.H G := by
  refine ⟨w, ρ, rfl, wr, sl, ?_⟩
  cases e : m ρ w.M with
  | ok d M' =>
    rw [e] at h
    intro w' ext hM wr' v hv
    exact hk w' d v ext wr' (ext.slots sl) hv (by rw [hM]; exact AftS.ext h ext)
  | exc x M' =>
    rw [e] at h
    intro w' C dx v ext hM wr' hm hd r
    exact h w' σ C dx v ext hM wr' (ext.slots sl) hm hd r
  | bad =>
    rw [e] at h
    exact h

/-! ### names, constants -/
def eVar (i : Nat) : Env → Mem → Res D := fun ρ M => match ρ[i]? with
  | some (some d) => .ok d M
  | _ => .bad
def eC (d : D) : Env → Mem → Res D := fun _ M => .ok d M
theorem d_var {e : Expr} {i : Nat} (h : PE X e (tVar i)) : PE X e (tE X W (eVar i)) := PE.imp h fun σ H Q ⟨w, ρ, hH, wr, sl, q⟩ => by
  subst hH
  unfold eVar at q
  cases e : ρ[i]? with
  | none =>
    rw [e] at q
    exact q.elim
  | some o =>
    cases o with
    | none =>
      rw [e] at q
      exact q.elim
    | some d =>
      rw [e] at q
      obtain ⟨v, h1, h2⟩ := sl.at_ i d e
      exact ⟨v, h1, Aft.here q wr v h2⟩
theorem d_c {e : Expr} {v : V} {d : D} (h : PE X e (tC v)) (r : ∀ w : Vw, Rp X.K w d v) : PE X e (tE X W (eC d)) := PE.imp h fun σ H Q ⟨w, ρ, hH, wr, sl, q⟩ => by
  subst hH
  exact Aft.here q wr v (r w)
theorem rp_int {w : Vw} {i : Int} : Rp X.K w (.int i) (.int i) := by simp only [Rp, Rep]
theorem rp_bl {w : Vw} {i : Bool} : Rp X.K w (.bl i) (.bl i) := by simp only [Rp, Rep]
theorem rp_str {w : Vw} {i : Str} : Rp X.K w (.str i) (.str i) := by simp only [Rp, Rep]
theorem rp_non {w : Vw} : Rp X.K w .non .non := by simp only [Rp, Rep]
theorem rp_ty {w : Vw} {n : String} : Rp X.K w (.ty n) (.ty n) := by simp only [Rp, Rep]
theorem d_int {i j pos} : PE X (.Constant (.int i) j pos) (tE X W (eC (.int i))) := d_c pe_int fun _ => rp_int
theorem d_bl {i j pos} : PE X (.Constant (.bool i) j pos) (tE X W (eC (.bl i))) := d_c pe_bl fun _ => rp_bl
theorem d_str {i j pos} : PE X (.Constant (.str i) j pos) (tE X W (eC (.str i))) := d_c pe_str fun _ => rp_str
theorem d_non {j pos} : PE X (.Constant .none j pos) (tE X W (eC .non)) := d_c pe_non fun _ => rp_non

/-! ### operators of two, of one -/
def e2 (f : D → D → Mem → Res D) (ma mb : Env → Mem → Res D) : Env → Mem → Res D := fun ρ M => (ma ρ M).bind fun x M1 => (mb ρ M1).bind fun y M2 => f x y M2
def e1 (f : D → Mem → Res D) (ma : Env → Mem → Res D) : Env → Mem → Res D := fun ρ M => (ma ρ M).bind fun x M1 => f x M1
abbrev G2 := D → D → Mem → Res D
abbrev G1 := D → Mem → Res D
/-- by values -/
def R2D (X : Cx) (r : R2) (g : G2) : Prop := ∀ (w : Vw) (x y : D) (vx vy : V) (Q : VK) (E : XK), WR X.K w → Rp X.K w x vx → Rp X.K w y vy →
  Aft X.K X.mg w (g x y w.M) (fun w' d => ∀ v, Rp X.K w' d v → Q v w'.H) E → r vx vy w.H Q
def R1D (X : Cx) (r : V → Hp → VK → Prop) (g : G1) : Prop := ∀ (w : Vw) (x : D) (vx : V) (Q : VK) (E : XK), WR X.K w → Rp X.K w x vx →
  Aft X.K X.mg w (g x w.M) (fun w' d => ∀ v, Rp X.K w' d v → Q v w'.H) E → r vx w.H Q
def OpD (X : Cx) (f : Value → Value → Sem Value) (g : G2) : Prop := ∃ r, OpR X f r ∧ R2D X r g
def UnD (X : Cx) (f : Value → Sem Value) (g : G1) : Prop := ∃ r, UnR X f r ∧ R1D X r g
theorem t_two {r : R2} {g : G2} (hr : R2D X r g) {ma mb : Env → Mem → Res D} {σ : L2.St} {H : Hp} {Q : VK} (h : tE X W (e2 g ma mb) σ H Q) : tOp r (tE X W ma) (tE X W mb) σ H Q := by
  obtain ⟨w, ρ, hH, wr, sl, q⟩ := h
  subst hH
  unfold tOp
  refine tR_step wr sl q fun w1 x vx ext1 wr1 rx q1 => ?_
  refine tR_step wr1 (ext1.slots sl) q1 fun w2 y vy ext2 wr2 ry q2 => ?_
  exact hr w2 x y vx vy Q _ wr2 (ext2.rp rx) ry q2
theorem d_op {op : Operator} {g : G2} {a b : Expr} {ma mb : Env → Mem → Res D} {pos : Pos} (ho : OpD X (binaryOp op) g) (ha : PE X a (tE X W ma)) (hb : PE X b (tE X W mb)) : PE X (.BinOp a op b pos) (tE X W (e2 g ma mb)) := by
  obtain ⟨r, h1, h2⟩ := ho
  exact PE.imp (pe_op h1 ha hb) fun σ H Q h => t_two h2 h
theorem d_cmp {op : CmpOp} {g : G2} {a b : Expr} {ma mb : Env → Mem → Res D} {pos : Pos} (ho : OpD X (compareOp op) g) (ha : PE X a (tE X W ma)) (hb : PE X b (tE X W mb)) (hm : behindInMarks op b = false := by first | exact nomark _ | rfl) :
    PE X (.Compare a [op] [b] pos) (tE X W (e2 g ma mb)) := by
  obtain ⟨r, h1, h2⟩ := ho
  exact PE.imp (pe_cmpR h1 ha hb hm) fun σ H Q h => t_two h2 h
theorem d_un {op : UnaryOp} {g : G1} {a : Expr} {ma : Env → Mem → Res D} {pos : Pos} (ho : UnD X (unaryOp op) g) (ha : PE X a (tE X W ma)) : PE X (.UnaryOp op a pos) (tE X W (e1 g ma)) := by
  obtain ⟨r, h1, h2⟩ := ho
  refine PE.imp (pe_un h1 ha) fun σ H Q h => ?_
  obtain ⟨w, ρ, hH, wr, sl, q⟩ := h
  subst hH
  unfold tUn
  exact tR_step wr sl q fun w1 x vx ext1 wr1 rx q1 => h2 w1 x vx Q _ wr1 rx q1
/-- a < b < c -/
def eChain (f g : G2) (ma mb mc : Env → Mem → Res D) : Env → Mem → Res D := fun ρ M => (ma ρ M).bind fun x M1 => (mb ρ M1).bind fun y M2 => (f x y M2).bind fun z M3 => match z with
  | .bl true => (mc ρ M3).bind fun u M4 => g y u M4
  | .bl false => .ok (.bl false) M3
  | _ => .bad
theorem rp_bl_inv {w : Vw} {b : Bool} {v : V} (h : Rp X.K w (.bl b) v) : v = .bl b := by simpa only [Rp, Rep] using h
theorem rp_int_inv {w : Vw} {b : Int} {v : V} (h : Rp X.K w (.int b) v) : v = .int b := by simpa only [Rp, Rep] using h
theorem rp_str_inv {w : Vw} {b : Str} {v : V} (h : Rp X.K w (.str b) v) : v = .str b := by simpa only [Rp, Rep] using h
theorem rp_non_inv {w : Vw} {v : V} (h : Rp X.K w .non v) : v = .non := by simpa only [Rp, Rep] using h
theorem rp_ty_inv {w : Vw} {n : String} {v : V} (h : Rp X.K w (.ty n) v) : v = .ty n := by simpa only [Rp, Rep] using h
/-- a step whose part is no expression's -/
theorem aft_bind {β δ : Type} {K : PySem.W.Frag} {mg : Str → Option Value} {w : Vw} {E : XK} {r : Res β} {k : β → Mem → Res δ} {Q : Vw → δ → Prop} (h : Aft K mg w (r.bind k) Q E) : Aft K mg w r (fun w' d => Aft K mg w' (k d w'.M) Q E) E := by
  cases r with
  | ok d M' =>
    intro w' ext hM wr
    rw [hM]
    exact Aft.ext h ext
  | exc x M' => exact h
  | bad => exact h
theorem t_chain {r r' : R2} {f g : G2} (hr : R2D X r f) (hr' : R2D X r' g) {ma mb mc : Env → Mem → Res D} {σ : L2.St} {H : Hp} {Q : VK} (h : tE X W (eChain f g ma mb mc) σ H Q) : tChain r r' (tE X W ma) (tE X W mb) (tE X W mc) σ H Q := by
  obtain ⟨w, ρ, hH, wr, sl, q⟩ := h
  subst hH
  unfold tChain
  refine tR_step wr sl q fun w1 x vx ext1 wr1 rx q1 => ?_
  refine tR_step wr1 (ext1.slots sl) q1 fun w2 y vy ext2 wr2 ry q2 => ?_
  refine hr w2 x y vx vy _ (fun c dx H' => W c dx σ H') wr2 (ext2.rp rx) ry (Aft.mono (aft_bind q2) fun w3 z ext3 wr3 q3 vz rz => ?_)
  cases z with
  | bl b =>
    obtain rfl := rp_bl_inv rz
    refine ⟨b, rfl, ?_⟩
    cases b with
    | true =>
      rw [if_pos rfl]
      refine tR_step wr3 (((ext1.trans ext2).trans ext3).slots sl) q3 fun w4 u vu ext4 wr4 ru q4 => ?_
      exact hr' w4 y u vy vu Q _ wr4 ((ext3.trans ext4).rp ry) ru q4
    | false =>
      rw [if_neg (by decide)]
      exact Aft.here q3 wr3 _ rp_bl
  | _ => exact q3.elim
theorem d_chain {op op' : CmpOp} {f g : G2} {a b c : Expr} {ma mb mc : Env → Mem → Res D} {pos : Pos} (ho : OpD X (compareOp op) f) (ho' : OpD X (compareOp op') g) (ha : PE X a (tE X W ma)) (hb : PE X b (tE X W mb)) (hc : PE X c (tE X W mc))
    (hm : lastMarks [op, op'] [b, c] = false := by rfl) : PE X (.Compare a [op, op'] [b, c] pos) (tE X W (eChain f g ma mb mc)) := by
  obtain ⟨r, h1, h2⟩ := ho
  obtain ⟨r', h3, h4⟩ := ho'
  exact PE.imp (pe_chain h1 h3 ha hb hc hm) fun σ H Q h => t_chain h2 h4 h

/-! ### lists of expressions -/
def aNil : Env → Mem → Res (List D) := fun _ M => .ok [] M
def aCons (ma : Env → Mem → Res D) (mr : Env → Mem → Res (List D)) : Env → Mem → Res (List D) := fun ρ M => (ma ρ M).bind fun x M1 => (mr ρ M1).bind fun xs M2 => .ok (x :: xs) M2
/-- *e -/
def aStar (ma : Env → Mem → Res D) (mr : Env → Mem → Res (List D)) : Env → Mem → Res (List D) := fun ρ M => (ma ρ M).bind fun x M1 => match x with
  | .tup xs => (mr ρ M1).bind fun ys M2 => .ok (xs ++ ys) M2
  | .lst xs => (mr ρ M1).bind fun ys M2 => .ok (xs ++ ys) M2
  | _ => .bad
theorem da_nil : PA X [] (tA X W aNil) := PA.imp pa_nil fun σ H Q ⟨w, ρ, hH, wr, sl, q⟩ => by
  subst hH
  exact Aft.here q wr [] repL_nil
theorem da_cons {e : Expr} {es : List Expr} {ma : Env → Mem → Res D} {mr : Env → Mem → Res (List D)} (ha : PE X e (tE X W ma)) (hr : PA X es (tA X W mr)) (hs : starEach (e :: es) X.env = (false, eval e X.env) :: starEach es X.env := by rfl) :
    PA X (e :: es) (tA X W (aCons ma mr)) := PA.imp (pa_cons ha hr hs) fun σ H Q ⟨w, ρ, hH, wr, sl, q⟩ => by
  subst hH
  unfold tCons
  refine tR_step wr sl q fun w1 x vx ext1 wr1 rx q1 => ?_
  refine tR_step wr1 (ext1.slots sl) q1 fun w2 xs vs ext2 wr2 rxs q2 => ?_
  exact Aft.here q2 wr2 _ (repL_cons (ext2.rp rx) rxs)
theorem da_star {e : Expr} {es : List Expr} {p : Pos} {ma : Env → Mem → Res D} {mr : Env → Mem → Res (List D)} (ha : PE X e (tE X W ma)) (hr : PA X es (tA X W mr)) :
    PA X (.Starred e p :: es) (tA X W (aStar ma mr)) := PA.imp (StX.pa_star ha hr) fun σ H Q ⟨w, ρ, hH, wr, sl, q⟩ => by
  subst hH
  unfold StX.tStar
  refine tR_step wr sl q fun w1 x vx ext1 wr1 rx q1 => ?_
  cases x with
  | tup xs =>
    have rx0 := rx
    simp only [Rp, Rep] at rx
    obtain ⟨a, vs, rfl, hs, hl⟩ := rx
    refine ⟨a, vs, rfl, .inl ((vis_sub w1).sqT hs), ?_⟩
    refine tR_step wr1 (ext1.slots sl) q1 fun w2 ys us ext2 wr2 rys q2 => ?_
    exact Aft.here q2 wr2 _ ((ext2.rpL hl).append rys)
  | lst xs =>
    simp only [Rp, Rep] at rx
    obtain ⟨a, vs, rfl, hs, hl⟩ := rx
    refine ⟨a, vs, rfl, .inr ((vis_sub w1).sqL (SqL.of hs)), ?_⟩
    refine tR_step wr1 (ext1.slots sl) q1 fun w2 ys us ext2 wr2 rys q2 => ?_
    exact Aft.here q2 wr2 _ ((ext2.rpL hl).append rys)
  | _ => exact q1.elim

/-! ### displays -/
def eTup (m : Env → Mem → Res (List D)) : Env → Mem → Res D := fun ρ M => (m ρ M).bind fun xs M1 => if xs.length ≤ 1000000 then .ok (.tup xs) M1 else .bad
def eLst (m : Env → Mem → Res (List D)) : Env → Mem → Res D := fun ρ M => (m ρ M).bind fun xs M1 => if xs.length ≤ 1000000 then .ok (.lst xs) M1 else .bad
/-- a list of one's own, that is to be changed -/
def eOwn (m : Env → Mem → Res (List D)) : Env → Mem → Res D := fun ρ M => (m ρ M).bind fun xs M1 => if xs.length ≤ 1000000 then .ok (.own M1.length) (M1 ++ [some (.lst xs)]) else .bad
theorem line_of {n : Nat} (h : n ≤ 1000000) : n ≤ sizeLine := by rw [sizeLine_eq]; omega
theorem no_tbl {o : HO} (h : match o with | .tbl _ => False | _ => True) : ∀ ps, o ≠ .tbl ps := fun ps e => by
  subst e
  exact h
theorem fin_tup {w : Vw} {xs : List D} {vs : List V} {Q : VK} {E : XK} (wr : WR X.K w) (hl : RpL X.K w xs vs) (q : Aft X.K X.mg w (.ok (.tup xs) w.M) (fun w' d => ∀ v, Rp X.K w' d v → Q v w'.H) E) : ∀ p, w.H p = none → Q (.ref p) (upd w.H p (.tup vs)) := fun p hp => by
  obtain ⟨ext, wr', hv⟩ := lay wr hp (.tup vs) (no_tbl trivial)
  refine q _ ext rfl wr' _ ?_
  simp only [Rp, Rep]
  exact ⟨p, vs, rfl, SqT.of hv, ext.rpL hl⟩
theorem fin_lst {w : Vw} {xs : List D} {vs : List V} {Q : VK} {E : XK} (wr : WR X.K w) (hl : RpL X.K w xs vs) (q : Aft X.K X.mg w (.ok (.lst xs) w.M) (fun w' d => ∀ v, Rp X.K w' d v → Q v w'.H) E) : ∀ p, w.H p = none → Q (.ref p) (upd w.H p (.lst vs)) := fun p hp => by
  obtain ⟨ext, wr', hv⟩ := lay wr hp (.lst vs) (no_tbl trivial)
  refine q _ ext rfl wr' _ ?_
  simp only [Rp, Rep]
  exact ⟨p, vs, rfl, hv, ext.rpL hl⟩
theorem rp_mut_last {w : Vw} {p : Addr} (wr : WR X.K w) {al : List Addr} {M : Mem} {S : List Addr} {H : Hp} {T : List (Addr × Str)} (e : al = w.al ++ [p]) : Rp X.K ⟨al, M, S, H, T⟩ (.own w.M.length) (.ref p) := by
  subst e
  simp only [Rp, Rep]
  exact ⟨p, rfl, by rw [← wr.len]; simp⟩
theorem fin_own {w : Vw} {o : HO} {m : MO} {Q : VK} {E : XK} (wr : WR X.K w) (ho : ∀ ps, o ≠ .tbl ps) (hm : RepO X.K w.al w.vis (some o) m) (q : Aft X.K X.mg w (.ok (.own w.M.length) (w.M ++ [some m])) (fun w' d => ∀ v, Rp X.K w' d v → Q v w'.H) E) : ∀ p, w.H p = none → Q (.ref p) (upd w.H p o) := fun p hp => by
  obtain ⟨ext, wr'⟩ := owned wr hp o ho m hm
  exact q _ ext rfl wr' _ (rp_mut_last wr rfl)
theorem aft_if {β : Type} {K : PySem.W.Frag} {mg : Str → Option Value} {w : Vw} {E : XK} {c : Prop} [Decidable c] {r : Res β} {Q : Vw → β → Prop} (h : Aft K mg w (if c then r else .bad) Q E) : c ∧ Aft K mg w r Q E := by
  by_cases hc : c
  · rw [if_pos hc] at h
    exact ⟨hc, h⟩
  · rw [if_neg hc] at h
    exact h.elim
theorem d_tup {es : List Expr} {m : Env → Mem → Res (List D)} {x1 pos} (h : PA X es (tA X W m)) : PE X (.Tuple es x1 pos) (tE X W (eTup m)) := PE.imp (pe_tup h) fun σ H Q ⟨w, ρ, hH, wr, sl, q⟩ => by
  subst hH
  unfold tTup
  refine tR_step wr sl q fun w1 xs vs ext1 wr1 rx q1 => ?_
  obtain ⟨hz, q2⟩ := aft_if q1
  exact ⟨by rw [← rx.length]; exact line_of hz, fin_tup wr1 rx q2⟩
theorem d_lst {es : List Expr} {m : Env → Mem → Res (List D)} {pos} (h : PA X es (tA X W m)) : PE X (.List es pos) (tE X W (eLst m)) := PE.imp (pe_lst h) fun σ H Q ⟨w, ρ, hH, wr, sl, q⟩ => by
  subst hH
  unfold tLst
  refine tR_step wr sl q fun w1 xs vs ext1 wr1 rx q1 => ?_
  obtain ⟨hz, q2⟩ := aft_if q1
  exact ⟨by rw [← rx.length]; exact line_of hz, fin_lst wr1 rx q2⟩
theorem d_own {es : List Expr} {m : Env → Mem → Res (List D)} {pos} (h : PA X es (tA X W m)) : PE X (.List es pos) (tE X W (eOwn m)) := PE.imp (pe_lst h) fun σ H Q ⟨w, ρ, hH, wr, sl, q⟩ => by
  subst hH
  unfold tLst
  refine tR_step wr sl q fun w1 xs vs ext1 wr1 rx q1 => ?_
  obtain ⟨hz, q2⟩ := aft_if q1
  exact ⟨by rw [← rx.length]; exact line_of hz, fin_own (m := .lst xs) wr1 (no_tbl trivial) ⟨vs, rfl, rx⟩ q2⟩

/-! ### tests -/
def truD (d : D) (M : Mem) : Res Bool := match d with
  | .non => .ok false M
  | .bl b => .ok b M
  | .int i => .ok (i != 0) M
  | .str y => if y.length ≤ 1000000 then .ok ((y.length : Int) != 0) M else .bad
  | .tup l => .ok (!l.isEmpty) M
  | .lst l => .ok (!l.isEmpty) M
  | .fz l => .ok (!l.isEmpty) M
  | .own n => match M[n]? with
    | some (some (.lst l)) => .ok (!l.isEmpty) M
    | some (some (.dct l)) => .ok (!l.isEmpty) M
    | _ => .bad
  | _ => .bad
def tTr (m : Env → Mem → Res D) : Env → Mem → Res Bool := fun ρ M => (m ρ M).bind truD
theorem isEmpty_len {α β : Type} {l : List α} {m : List β} (h : l.length = m.length) : l.isEmpty = m.isEmpty := by
  cases l <;> cases m <;> simp_all
theorem repK_len {K : PySem.W.Frag} {al : List Addr} {F : Hp} : ∀ {ds : List (Key × D)} {vs : List (Key × V)}, RepK K al F ds vs → ds.length = vs.length
  | [], vs, h => by
    have e : vs = [] := h
    rw [e]
    rfl
  | d :: ds, _, h => by
    obtain ⟨v, r, e, _, _, h3⟩ := h
    subst e
    simp [repK_len h3]
theorem tru_of {w : Vw} {d : D} {v : V} {Q : Bool → Hp → Prop} {E : XK} (wr : WR X.K w) (r : Rp X.K w d v) (q : Aft X.K X.mg w (truD d w.M) (fun w' b => ∀ v, v = b → Q v w'.H) E) : ∃ k, TruV X.K v w.H k ∧ Q k w.H := by
  cases d with
  | non =>
    obtain rfl := rp_non_inv r
    exact ⟨_, rfl, Aft.here q wr _ rfl⟩
  | bl b =>
    obtain rfl := rp_bl_inv r
    exact ⟨_, rfl, Aft.here q wr _ rfl⟩
  | int b =>
    obtain rfl := rp_int_inv r
    exact ⟨_, rfl, Aft.here q wr _ rfl⟩
  | str b =>
    obtain rfl := rp_str_inv r
    obtain ⟨hz, q⟩ := aft_if q
    exact ⟨_, ⟨line_of hz, rfl⟩, Aft.here q wr _ rfl⟩
  | tup l =>
    simp only [Rp, Rep] at r
    obtain ⟨a, vs, rfl, hs, hl⟩ := r
    exact ⟨_, .inr (.inl ⟨vs, (vis_sub w).sqT hs, by rw [← isEmpty_len hl.length]⟩), Aft.here q wr _ rfl⟩
  | lst l =>
    simp only [Rp, Rep] at r
    obtain ⟨a, vs, rfl, hs, hl⟩ := r
    exact ⟨_, .inl ⟨vs, (vis_sub w).sqL (SqL.of hs), by rw [← isEmpty_len hl.length]⟩, Aft.here q wr _ rfl⟩
  | fz l =>
    simp only [Rp, Rep] at r
    obtain ⟨a, vs, rfl, hs, hl⟩ := r
    exact ⟨_, .inl ⟨vs, (vis_sub w).sqL hs, by rw [← isEmpty_len hl.length]⟩, Aft.here q wr _ rfl⟩
  | own n =>
    simp only [Rp, Rep] at r
    obtain ⟨a, rfl, hn⟩ := r
    unfold truD at q
    cases e : w.M[n]? with
    | none =>
      simp only [e] at q
      exact q.elim
    | some o =>
      cases o with
      | none =>
        simp only [e] at q
        exact q.elim
      | some m =>
        have ob := wr.obj n a m hn e
        cases m with
        | lst l =>
          simp only [e] at q
          obtain ⟨xs, e1, e2⟩ := ob
          exact ⟨_, .inl ⟨xs, SqL.of e1, by rw [← isEmpty_len e2.length]⟩, Aft.here q wr _ rfl⟩
        | dct l =>
          simp only [e] at q
          obtain ⟨xs, e1, e2⟩ := ob
          exact ⟨_, .inr (.inr ⟨xs, e1, by rw [← isEmpty_len (repK_len e2)]⟩), Aft.here q wr _ rfl⟩
  | ty n => exact q.elim
  | adr a => exact q.elim
  | lam _ _ _ _ _ => exact q.elim
  | err a _ _ _ => exact q.elim
/-- any expression as a test -/
theorem dt_of {e : Expr} {m : Env → Mem → Res D} (h : PE X e (tE X W m)) (he : ∀ whole, isTrue e X.env whole = (do let v ← whole; standAt e.pos; holding [v] (truthy v)) := by intro _; rfl) : PT X e (tT X W (tTr m)) := PT.imp (pt_truth h he) fun σ H Q ⟨w, ρ, hH, wr, sl, q⟩ => by
  subst hH
  exact tR_step wr sl q fun w1 x vx ext1 wr1 rx q1 => tru_of wr1 rx q1
/-- a comparison as a test: its answer is a bool -/
def tB (m : Env → Mem → Res D) : Env → Mem → Res Bool := fun ρ M => (m ρ M).bind fun d M1 => match d with
  | .bl b => .ok b M1
  | _ => .bad
theorem t_blT {r : R2} {g : G2} (hr : R2D X r g) {ma mb : Env → Mem → Res D} {σ : L2.St} {H : Hp} {Q : Bool → Hp → Prop} (h : tT X W (tB (e2 g ma mb)) σ H Q) : tTest (tOp r (tE X W ma) (tE X W mb)) σ H Q := by
  have h2 : tE X W (e2 g ma mb) σ H (fun x H' => ∃ k, x = .bl k ∧ Q k H') := by
    obtain ⟨w, ρ, hH, wr, sl, q⟩ := h
    subst hH
    refine tR_step wr sl q fun w1 x vx ext1 wr1 rx q1 => ?_
    cases x with
    | bl b =>
      obtain rfl := rp_bl_inv rx
      exact ⟨b, rfl, Aft.here q1 wr1 _ rfl⟩
    | _ => exact q1.elim
  exact t_two hr h2
theorem dt_cmp {op : CmpOp} {g : G2} {a b : Expr} {ma mb : Env → Mem → Res D} {pos : Pos} (ho : OpD X (compareOp op) g) (ha : PE X a (tE X W ma)) (hb : PE X b (tE X W mb)) (hm : behindInMarks op b = false := by first | exact nomark _ | rfl) :
    PT X (.Compare a [op] [b] pos) (tT X W (tB (e2 g ma mb))) := by
  obtain ⟨r, h1, h2⟩ := ho
  exact PT.imp (pt_cmpR h1 ha hb hm) fun σ H Q h => t_blT h2 h
theorem dt_chain {op op' : CmpOp} {f g : G2} {a b c : Expr} {ma mb mc : Env → Mem → Res D} {pos : Pos} (ho : OpD X (compareOp op) f) (ho' : OpD X (compareOp op') g) (ha : PE X a (tE X W ma)) (hb : PE X b (tE X W mb)) (hc : PE X c (tE X W mc))
    (hm : lastMarks [op, op'] [b, c] = false := by rfl) : PT X (.Compare a [op, op'] [b, c] pos) (tT X W (tB (eChain f g ma mb mc))) := by
  obtain ⟨r, h1, h2⟩ := ho
  obtain ⟨r', h3, h4⟩ := ho'
  refine PT.imp (pt_chain h1 h3 ha hb hc hm) fun σ H Q h => ?_
  have h5 : tE X W (eChain f g ma mb mc) σ H (fun x H' => ∃ k, x = .bl k ∧ Q k H') := by
    obtain ⟨w, ρ, hH, wr, sl, q⟩ := h
    subst hH
    refine tR_step wr sl q fun w1 x vx ext1 wr1 rx q1 => ?_
    cases x with
    | bl b =>
      obtain rfl := rp_bl_inv rx
      exact ⟨b, rfl, Aft.here q1 wr1 _ rfl⟩
    | _ => exact q1.elim
  exact t_chain h2 h4 h5
def tAndM (ma mb : Env → Mem → Res Bool) : Env → Mem → Res Bool := fun ρ M => (ma ρ M).bind fun b M1 => if b = true then mb ρ M1 else .ok false M1
def tOrM (ma mb : Env → Mem → Res Bool) : Env → Mem → Res Bool := fun ρ M => (ma ρ M).bind fun b M1 => if b = true then .ok true M1 else mb ρ M1
def tNotM (ma : Env → Mem → Res Bool) : Env → Mem → Res Bool := fun ρ M => (ma ρ M).bind fun b M1 => .ok (!b) M1
section
variable {a b : Expr} {rest : List Expr} {ma mb : Env → Mem → Res Bool} {pos : Pos}
theorem dw_and1 (h : PT X a (tT X W ma)) : PW X (.BoolOp .And [a] pos) (tT X W ma) := pw_and1 h
theorem dw_or1 (h : PT X a (tT X W ma)) : PW X (.BoolOp .Or [a] pos) (tT X W ma) := pw_or1 h
theorem dw_and (h : PT X a (tT X W ma)) (h2 : PW X (.BoolOp .And (b :: rest) pos) (tT X W mb)) : PW X (.BoolOp .And (a :: b :: rest) pos) (tT X W (tAndM ma mb)) := PW.imp (pw_and h h2) fun σ H Q ⟨w, ρ, hH, wr, sl, q⟩ => by
  subst hH
  unfold tAnd
  refine tR_step wr sl q fun w1 x vx ext1 wr1 rx q1 => ?_
  subst rx
  cases vx with
  | true =>
    rw [if_pos rfl] at q1 ⊢
    exact ⟨w1, ρ, rfl, wr1, ext1.slots sl, q1⟩
  | false =>
    rw [if_neg (by decide)] at q1 ⊢
    exact Aft.here q1 wr1 _ rfl
theorem dw_or (h : PT X a (tT X W ma)) (h2 : PW X (.BoolOp .Or (b :: rest) pos) (tT X W mb)) : PW X (.BoolOp .Or (a :: b :: rest) pos) (tT X W (tOrM ma mb)) := PW.imp (pw_or h h2) fun σ H Q ⟨w, ρ, hH, wr, sl, q⟩ => by
  subst hH
  unfold tOr
  refine tR_step wr sl q fun w1 x vx ext1 wr1 rx q1 => ?_
  subst rx
  cases vx with
  | true =>
    rw [if_pos rfl] at q1 ⊢
    exact Aft.here q1 wr1 _ rfl
  | false =>
    rw [if_neg (by decide)] at q1 ⊢
    exact ⟨w1, ρ, rfl, wr1, ext1.slots sl, q1⟩
theorem dt_w {e : Expr} {m : Env → Mem → Res Bool} (h : PW X e (tT X W m)) : PT X e (tT X W m) := h.pt
theorem dt_not (h : PT X a (tT X W ma)) : PT X (.UnaryOp .Not a pos) (tT X W (tNotM ma)) := PT.imp (pt_not h) fun σ H Q ⟨w, ρ, hH, wr, sl, q⟩ => by
  subst hH
  refine tR_step wr sl q fun w1 x vx ext1 wr1 rx q1 => ?_
  subst rx
  exact Aft.here q1 wr1 _ rfl
end
/-- and, or, not as values (all but the last are bools) -/
def eAnd (ma mb : Env → Mem → Res D) : Env → Mem → Res D := fun ρ M => (ma ρ M).bind fun d M1 => match d with
  | .bl true => mb ρ M1
  | .bl false => .ok (.bl false) M1
  | _ => .bad
def eOr (ma mb : Env → Mem → Res D) : Env → Mem → Res D := fun ρ M => (ma ρ M).bind fun d M1 => match d with
  | .bl true => .ok (.bl true) M1
  | .bl false => mb ρ M1
  | _ => .bad
def eNot (ma : Env → Mem → Res D) : Env → Mem → Res D := fun ρ M => (ma ρ M).bind fun d M1 => match d with
  | .bl b => .ok (.bl (!b)) M1
  | _ => .bad
section
variable {a b : Expr} {rest : List Expr} {ma mb : Env → Mem → Res D} {pos : Pos}
theorem d_one {op} (h : PE X a (tE X W ma)) : PE X (.BoolOp op [a] pos) (tE X W ma) := pe_one h
theorem d_and (h : PE X a (tE X W ma)) (h2 : PE X (.BoolOp .And (b :: rest) pos) (tE X W mb)) : PE X (.BoolOp .And (a :: b :: rest) pos) (tE X W (eAnd ma mb)) := PE.imp (pe_and h h2) fun σ H Q ⟨w, ρ, hH, wr, sl, q⟩ => by
  subst hH
  unfold tAndV
  refine tR_step wr sl q fun w1 x vx ext1 wr1 rx q1 => ?_
  cases x with
  | bl b =>
    obtain rfl := rp_bl_inv rx
    refine ⟨b, rfl, ?_⟩
    cases b with
    | true =>
      rw [if_pos rfl]
      exact ⟨w1, ρ, rfl, wr1, ext1.slots sl, q1⟩
    | false =>
      rw [if_neg (by decide)]
      exact Aft.here q1 wr1 _ rp_bl
  | _ => exact q1.elim
theorem d_or (h : PE X a (tE X W ma)) (h2 : PE X (.BoolOp .Or (b :: rest) pos) (tE X W mb)) : PE X (.BoolOp .Or (a :: b :: rest) pos) (tE X W (eOr ma mb)) := PE.imp (pe_or h h2) fun σ H Q ⟨w, ρ, hH, wr, sl, q⟩ => by
  subst hH
  unfold tOrV
  refine tR_step wr sl q fun w1 x vx ext1 wr1 rx q1 => ?_
  cases x with
  | bl b =>
    obtain rfl := rp_bl_inv rx
    refine ⟨b, rfl, ?_⟩
    cases b with
    | true =>
      rw [if_pos rfl]
      exact Aft.here q1 wr1 _ rp_bl
    | false =>
      rw [if_neg (by decide)]
      exact ⟨w1, ρ, rfl, wr1, ext1.slots sl, q1⟩
  | _ => exact q1.elim
theorem d_not (h : PE X a (tE X W ma)) : PE X (.UnaryOp .Not a pos) (tE X W (eNot ma)) := PE.imp (pe_not h) fun σ H Q ⟨w, ρ, hH, wr, sl, q⟩ => by
  subst hH
  unfold tNotV
  refine tR_step wr sl q fun w1 x vx ext1 wr1 rx q1 => ?_
  cases x with
  | bl b =>
    obtain rfl := rp_bl_inv rx
    exact ⟨b, rfl, Aft.here q1 wr1 _ rp_bl⟩
  | _ => exact q1.elim
def eIf (mc : Env → Mem → Res Bool) (ma mb : Env → Mem → Res D) : Env → Mem → Res D := fun ρ M => (mc ρ M).bind fun c M1 => if c = true then ma ρ M1 else mb ρ M1
theorem d_if {c : Expr} {mc : Env → Mem → Res Bool} (hc : PT X c (tT X W mc)) (h : PE X a (tE X W ma)) (h2 : PE X b (tE X W mb)) : PE X (.IfExp c a b pos) (tE X W (eIf mc ma mb)) := PE.imp (pe_ifExp hc h h2) fun σ H Q ⟨w, ρ, hH, wr, sl, q⟩ => by
  subst hH
  unfold tIf
  refine tR_step wr sl q fun w1 x vx ext1 wr1 rx q1 => ?_
  subst rx
  cases vx with
  | true =>
    rw [if_pos rfl] at q1 ⊢
    exact ⟨w1, ρ, rfl, wr1, ext1.slots sl, q1⟩
  | false =>
    rw [if_neg (by decide)] at q1 ⊢
    exact ⟨w1, ρ, rfl, wr1, ext1.slots sl, q1⟩
end

/-! ### built-in functions, subscripts, slices, methods -/
abbrev GL := List D → Mem → Res D
def RLD (X : Cx) (r : List V → Hp → VK → Prop) (g : GL) : Prop := ∀ (w : Vw) (xs : List D) (vs : List V) (Q : VK) (E : XK), WR X.K w → RpL X.K w xs vs →
  Aft X.K X.mg w (g xs w.M) (fun w' d => ∀ v, Rp X.K w' d v → Q v w'.H) E → r vs w.H Q
def CallD (X : Cx) (f : Value) (g : GL) : Prop := ∃ r, CallR X f r ∧ RLD X r g
def eL (g : GL) (m : Env → Mem → Res (List D)) : Env → Mem → Res D := fun ρ M => (m ρ M).bind fun xs M1 => g xs M1
theorem t_list {r : List V → Hp → VK → Prop} {g : GL} (hr : RLD X r g) {m : Env → Mem → Res (List D)} {σ : L2.St} {H : Hp} {Q : VK} (h : tE X W (eL g m) σ H Q) : tCB r (tA X W m) σ H Q := by
  obtain ⟨w, ρ, hH, wr, sl, q⟩ := h
  subst hH
  unfold tCB
  exact tR_step wr sl q fun w1 x vx ext1 wr1 rx q1 => hr w1 x vx Q _ wr1 rx q1
section
variable {x : Str} {p pos : Pos} {e : Expr} {es : List Expr} {m : Env → Mem → Res (List D)} {g : GL} {id T : String}
theorem d_callB (hc : CallD X (.builtin id) g) (hg : Gl X x) (hm : X.mg x = none) (hv : bootBuiltins x = some (.builtin id)) (ha : PA X (e :: es) (tA X W m)) (hn : x ≠ "__name__" := by decide) (hdb : (x == ("__debug__" : Str)) = false := by decide)
    (he : starEach (e :: es) X.env = (false, eval e X.env) :: starEach es X.env := by rfl) (hpl : (backTo pos (starEach es X.env)).any (·.1) = false := by rfl) : PE X (.Call (.Name x p) (e :: es) [] pos) (tE X W (eL g m)) := by
  obtain ⟨r, h1, h2⟩ := hc
  exact PE.imp (pe_callB h1 hg hm hv ha hn hdb he hpl) fun σ H Q h => t_list h2 h
theorem d_callTy (hc : CallD X (.type T) g) (hg : Gl X x) (hm : X.mg x = none) (hv : bootBuiltins x = some (.type T)) (ha : PA X (e :: es) (tA X W m)) (hn : x ≠ "__name__" := by decide) (hdb : (x == ("__debug__" : Str)) = false := by decide)
    (he : starEach (e :: es) X.env = (false, eval e X.env) :: starEach es X.env := by rfl) (hpl : (backTo pos (starEach es X.env)).any (·.1) = false := by rfl) : PE X (.Call (.Name x p) (e :: es) [] pos) (tE X W (eL g m)) := by
  obtain ⟨r, h1, h2⟩ := hc
  exact PE.imp (pe_callTy h1 hg hm hv ha hn hdb he hpl) fun σ H Q h => t_list h2 h
/-- a built-in function by a module's name (math.gcd) -/
theorem d_callF (hc : CallD X (.builtin id) g) (hg : Gl X x) (hm : X.mg x = some (.builtin id)) (ha : PA X (e :: es) (tA X W m)) (hdb : (x == ("__debug__" : Str)) = false := by decide)
    (he : starEach (e :: es) X.env = (false, eval e X.env) :: starEach es X.env := by rfl) (hpl : (backTo pos (starEach es X.env)).any (·.1) = false := by rfl) : PE X (.Call (.Name x p) (e :: es) [] pos) (tE X W (eL g m)) := by
  obtain ⟨r, h1, h2⟩ := hc
  exact PE.imp (pe_callBfun h1 hg hm ha hdb he hpl) fun σ H Q h => t_list h2 h
end
def IxD (X : Cx) (g : G2) : Prop := ∃ r, IxR X r ∧ R2D X r g
theorem d_ix {a b : Expr} {g : G2} {ma mb : Env → Mem → Res D} {pos : Pos} (hr : IxD X g) (ha : PE X a (tE X W ma)) (hb : PE X b (tE X W mb)) (hs : PlainIx b := by exact fun _ _ => rfl) : PE X (.Subscript a b pos) (tE X W (e2 g ma mb)) := by
  obtain ⟨r, h1, h2⟩ := hr
  exact PE.imp (pe_ix h1 ha hb hs) fun σ H Q h => t_two h2 h
abbrev GS := D → Option Int → Option Int → Mem → Res D
def SlD (X : Cx) (g : GS) : Prop := ∃ r, SlR X r ∧ ∀ (w : Vw) (x : D) (vx : V) (lo hi : Option Int) (Q : VK) (E : XK), WR X.K w → Rp X.K w x vx →
  Aft X.K X.mg w (g x lo hi w.M) (fun w' d => ∀ v, Rp X.K w' d v → Q v w'.H) E → r vx lo hi w.H Q
def oNone : Env → Mem → Res (Option Int) := fun _ M => .ok none M
def oSome (m : Env → Mem → Res D) : Env → Mem → Res (Option Int) := fun ρ M => (m ρ M).bind fun d M1 => match d with
  | .int i => .ok (some i) M1
  | _ => .bad
theorem do_none : PO X none (tO X W oNone) := PO.imp po_none fun σ H Q ⟨w, ρ, hH, wr, sl, q⟩ => by
  subst hH
  exact Aft.here q wr _ rfl
theorem do_some {e : Expr} {m : Env → Mem → Res D} (h : PE X e (tE X W m)) : PO X (some e) (tO X W (oSome m)) := PO.imp (po_some h) fun σ H Q ⟨w, ρ, hH, wr, sl, q⟩ => by
  subst hH
  unfold tPart
  refine tR_step wr sl q fun w1 x vx ext1 wr1 rx q1 => ?_
  cases x with
  | int i =>
    obtain rfl := rp_int_inv rx
    exact ⟨i, rfl, Aft.here q1 wr1 _ rfl⟩
  | _ => exact q1.elim
def eSl (g : GS) (ma : Env → Mem → Res D) (ml mh : Env → Mem → Res (Option Int)) : Env → Mem → Res D := fun ρ M => (ma ρ M).bind fun x M1 => (ml ρ M1).bind fun l M2 => (mh ρ M2).bind fun h M3 => g x l h M3
theorem d_slice {e : Expr} {lo hi : Option Expr} {g : GS} {ma : Env → Mem → Res D} {ml mh : Env → Mem → Res (Option Int)} {p2 pos : Pos} (hr : SlD X g) (he : PE X e (tE X W ma)) (hl : PO X lo (tO X W ml)) (hu : PO X hi (tO X W mh)) :
    PE X (.Subscript e (.Slice lo hi none p2) pos) (tE X W (eSl g ma ml mh)) := by
  obtain ⟨r, h1, h2⟩ := hr
  refine PE.imp (pe_slice h1 he hl hu) fun σ H Q ⟨w, ρ, hH, wr, sl, q⟩ => ?_
  subst hH
  unfold tSl
  refine tR_step wr sl q fun w1 x vx ext1 wr1 rx q1 => ?_
  refine tR_step wr1 (ext1.slots sl) q1 fun w2 l vl ext2 wr2 rl q2 => ?_
  refine tR_step wr2 ((ext1.trans ext2).slots sl) q2 fun w3 u vu ext3 wr3 ru q3 => ?_
  subst rl
  subst ru
  exact h2 w3 x vx vl vu Q _ wr3 ((ext2.trans ext3).rp rx) q3
end
end DL
namespace DL
open PySem PySem.Spec L2
variable [TabsOf]
variable {X : Cx} {W : WX}

/-! ### two whole numbers -/
def iOp (C : Int → Int → Bool) (g : Int → Int → D) : G2 := fun x y M => match x, y with
  | .int i, .int j => if C i j = true then .ok (g i j) M else .bad
  | _, _ => .bad
theorem iOp_R2D {Cp : Int → Int → Prop} {C : Int → Int → Bool} {g : Int → Int → D} {gv : Int → Int → V} (hc : ∀ i j, C i j = true → Cp i j) (hg : ∀ (w : Vw) i j, Rp X.K w (g i j) (gv i j)) : R2D X (rI Cp gv) (iOp C g) := by
  intro w x y vx vy Q E wr rx ry q
  cases x with
  | int i =>
    cases y with
    | int j =>
      obtain rfl := rp_int_inv rx
      obtain rfl := rp_int_inv ry
      obtain ⟨c, q⟩ := aft_if q
      exact ⟨i, j, rfl, rfl, hc i j c, Aft.here q wr _ (hg w i j)⟩
    | _ => exact q.elim
  | _ => exact q.elim
theorem iOp_OpD {f : Value → Value → Sem Value} {Cp : Int → Int → Prop} {C : Int → Int → Bool} {g : Int → Int → D} {gv : Int → Int → V} (h : OpR X f (rI Cp gv)) (hc : ∀ i j, C i j = true → Cp i j) (hg : ∀ (w : Vw) i j, Rp X.K w (g i j) (gv i j)) : OpD X f (iOp C g) :=
  ⟨_, h, iOp_R2D hc hg⟩
theorem rI_of0 {f : Value → Value → Sem Value} {gv : Int → Int → V} (h : OpR X f (rI0 gv)) : OpR X f (rI (fun _ _ => True) gv) := fun pins s σ H x y v u Q I rx ry ⟨i, j, e1, e2, _, q⟩ => h pins s σ H x y v u Q I rx ry ⟨i, j, e1, e2, q⟩
def subD : G2 := iOp (fun _ _ => true) fun i j => .int (i - j)
theorem o_sub : OpD X (binaryOp .Sub) subD := iOp_OpD (rI_of0 op_sub) (fun _ _ _ => trivial) fun _ _ _ => rp_int
/-- the least that * asks: together less than a million bits -/
def mulOk (i j : Int) : Bool := decide (i.natAbs.log2 + j.natAbs.log2 < 1000000)
def mulI : G2 := iOp mulOk fun i j => .int (i * j)
theorem mulOk_ok {i j : Int} (h : mulOk i j = true) : CMulW i j := by
  have h2 : decide (i.natAbs.log2 + j.natAbs.log2 < 1000000) = true := h
  exact (of_decide_eq_true h2 : i.natAbs.log2 + j.natAbs.log2 < 1000000)
theorem o_mulI : OpD X (binaryOp .Mult) mulI := iOp_OpD op_mulW (fun _ _ h => mulOk_ok h) fun _ _ _ => rp_int
def divOk (i j : Int) : Bool := (decide (0 < j) && decide (j.natAbs.log2 < 9000)) || (decide (j < 0) && decide (j.natAbs < 1073741824))
def divD : G2 := iOp divOk fun i j => .int (i.fdiv j)
theorem o_div : OpD X (binaryOp .FloorDiv) divD := by
  refine iOp_OpD (Cp := fun i j => CDivW i j ∨ CDivN i j) (gv := fun i j => .int (i.fdiv j)) ?_ (fun i j h => ?_) fun _ _ _ => rp_int
  · intro pins s σ H x y v u Q I rx ry ⟨i, j, e1, e2, c, q⟩
    rcases c with c | c
    · exact op_fdivW pins s σ H x y v u Q I rx ry ⟨i, j, e1, e2, c, by
        have e : i.fdiv j = i / j := Int.fdiv_eq_ediv_of_nonneg i (Int.le_of_lt c.1)
        have q' : Q (.int (i.fdiv j)) H := q
        rw [e] at q'
        exact q'⟩
    · exact op_fdivN pins s σ H x y v u Q I rx ry ⟨i, j, e1, e2, c, q⟩
  · unfold divOk at h
    rw [Bool.or_eq_true, Bool.and_eq_true, Bool.and_eq_true] at h
    rcases h with ⟨h1, h2⟩ | ⟨h1, h2⟩
    · exact .inl ⟨of_decide_eq_true h1, of_decide_eq_true h2⟩
    · have h3 : j < 0 := of_decide_eq_true h1
      exact .inr ⟨by omega, of_decide_eq_true h2⟩
def modD : G2 := iOp (fun _ j => decide (j ≠ 0)) fun i j => .int (i.fmod j)
theorem o_mod : OpD X (binaryOp .Mod) modD := iOp_OpD op_modN (fun _ _ h => of_decide_eq_true h) fun _ _ _ => rp_int
def powOk (i j : Int) : Bool := decide (0 ≤ j) && decide (j ≤ 1000000) && decide (i.natAbs < 2 ^ 64)
def powD : G2 := iOp powOk fun i j => .int (i ^ j.toNat)
theorem powOk_ok {i j : Int} (h : powOk i j = true) : CPow i j := by
  unfold powOk at h
  rw [Bool.and_eq_true, Bool.and_eq_true] at h
  exact ⟨of_decide_eq_true h.1.1, of_decide_eq_true h.1.2, of_decide_eq_true h.2⟩
theorem o_pow : OpD X (binaryOp .Pow) powD := iOp_OpD op_pow (fun _ _ h => powOk_ok h) fun _ _ _ => rp_int
def shlD : G2 := iOp powOk fun i j => .int (i * 2 ^ j.toNat)
theorem o_shl : OpD X (binaryOp .LShift) shlD := iOp_OpD op_shl (fun _ _ h => powOk_ok h) fun _ _ _ => rp_int
def shrD : G2 := iOp (fun _ j => decide (0 ≤ j)) fun i j => .int (i / 2 ^ j.toNat)
theorem o_shr : OpD X (binaryOp .RShift) shrD := iOp_OpD op_shr (fun _ _ h => of_decide_eq_true h) fun _ _ _ => rp_int
def andD : G2 := iOp (fun _ _ => true) fun i j => .int (Builtin.bitAnd i j)
theorem o_and : OpD X (binaryOp .BitAnd) andD := iOp_OpD (rI_of0 op_and) (fun _ _ _ => trivial) fun _ _ _ => rp_int
def orD : G2 := iOp (fun _ _ => true) fun i j => .int (Builtin.bitOr i j)
theorem o_or : OpD X (binaryOp .BitOr) orD := iOp_OpD (rI_of0 op_or) (fun _ _ _ => trivial) fun _ _ _ => rp_int
def ltD : G2 := iOp (fun _ _ => true) fun i j => .bl (decide (i < j))
def leD : G2 := iOp (fun _ _ => true) fun i j => .bl (decide (i ≤ j))
def gtD : G2 := iOp (fun _ _ => true) fun i j => .bl (decide (j < i))
def geD : G2 := iOp (fun _ _ => true) fun i j => .bl (decide (j ≤ i))
theorem o_lt : OpD X (compareOp .Lt) ltD := iOp_OpD (rI_of0 op_lt) (fun _ _ _ => trivial) fun _ _ _ => rp_bl
theorem o_le : OpD X (compareOp .LtE) leD := iOp_OpD (rI_of0 op_le) (fun _ _ _ => trivial) fun _ _ _ => rp_bl
theorem o_gt : OpD X (compareOp .Gt) gtD := iOp_OpD (rI_of0 op_gt) (fun _ _ _ => trivial) fun _ _ _ => rp_bl
theorem o_ge : OpD X (compareOp .GtE) geD := iOp_OpD (rI_of0 op_ge) (fun _ _ _ => trivial) fun _ _ _ => rp_bl
def negD : G1 := fun x M => match x with
  | .int i => .ok (.int (-i)) M
  | _ => .bad
theorem o_neg : UnD X (unaryOp .USub) negD := ⟨_, un_neg, fun w x vx Q E wr rx q => by
  cases x with
  | int i =>
    obtain rfl := rp_int_inv rx
    exact ⟨i, rfl, Aft.here q wr _ rp_int⟩
  | _ => exact q.elim⟩

/-! ### + of intsOf, texts, tuples, lists -/
def addD : G2 := fun x y M => match x, y with
  | .int i, .int j => .ok (.int (i + j)) M
  | .str i, .str j => if i.length + j.length ≤ 1000000 then .ok (.str (i ++ j)) M else .bad
  | .tup xs, .tup ys => if xs.length + ys.length ≤ 1000000 then .ok (.tup (xs ++ ys)) M else .bad
  | .lst xs, .lst ys => if xs.length + ys.length ≤ 1000000 then .ok (.lst (xs ++ ys)) M else .bad
  | _, _ => .bad
theorem o_add : OpD X (binaryOp .Add) addD := by
  refine ⟨_, (op_add.or op_add_str).or (op_catA.or op_cat), fun w x y vx vy Q E wr rx ry q => ?_⟩
  cases x with
  | int i =>
    cases y with
    | int j =>
      obtain rfl := rp_int_inv rx
      obtain rfl := rp_int_inv ry
      exact .inl (.inl ⟨i, j, rfl, rfl, Aft.here q wr _ rp_int⟩)
    | _ => exact q.elim
  | str i =>
    cases y with
    | str j =>
      obtain rfl := rp_str_inv rx
      obtain rfl := rp_str_inv ry
      obtain ⟨c, q⟩ := aft_if q
      exact .inl (.inr ⟨i, j, rfl, rfl, line_of c, Aft.here q wr _ rp_str⟩)
    | _ => exact q.elim
  | tup xs =>
    cases y with
    | tup ys =>
      have rx0 := rx
      have ry0 := ry
      simp only [Rp, Rep] at rx ry
      obtain ⟨a, vs, rfl, hs, hl⟩ := rx
      obtain ⟨b, us, rfl, hs2, hl2⟩ := ry
      obtain ⟨c, q⟩ := aft_if q
      refine .inr (.inl ⟨a, b, vs, us, rfl, rfl, (vis_sub w).sqT hs, (vis_sub w).sqT hs2, line_of (by rw [← hl.length, ← hl2.length]; exact c), fun e => ?_, fun _ e => ?_, fun _ _ => fin_tup wr (hl.append hl2) q⟩)
      · subst e
        have e2 : xs = [] := List.eq_nil_of_length_eq_zero hl.length
        subst e2
        exact Aft.here q wr _ ry0
      · subst e
        have e2 : ys = [] := List.eq_nil_of_length_eq_zero hl2.length
        subst e2
        rw [List.append_nil] at q
        exact Aft.here q wr _ rx0
    | _ => exact q.elim
  | lst xs =>
    cases y with
    | lst ys =>
      simp only [Rp, Rep] at rx ry
      obtain ⟨a, vs, rfl, hs, hl⟩ := rx
      obtain ⟨b, us, rfl, hs2, hl2⟩ := ry
      obtain ⟨c, q⟩ := aft_if q
      exact .inr (.inr ⟨a, b, vs, us, rfl, rfl, vis_sub w _ _ hs, vis_sub w _ _ hs2, line_of (by rw [← hl.length, ← hl2.length]; exact c), fin_lst wr (hl.append hl2) q⟩)
    | _ => exact q.elim
  | _ => exact q.elim

/-! ### == of data -/
mutual
def toPy : D → Option PyData
  | .non => some .none
  | .bl b => some (.bool b)
  | .int i => some (.int i)
  | .str x => some (.str x)
  | .tup l => (toPyL l).map .tuple
  | .lst l => (toPyL l).map .list
  | .fz l => (toPyL l).map .list
  | _ => none
def toPyL : List D → Option (List PyData)
  | [] => some []
  | d :: ds => match toPy d, toPyL ds with
    | some p, some ps => some (p :: ps)
    | _, _ => none
end
section
variable {K : PySem.W.Frag} {al : List Addr} {F H : Hp}
mutual
theorem dp_of (hs : Sub F H) : ∀ (d : D) (v : V) (p : PyData), Rep K al F d v → toPy d = some p → Dp K H v p
  | .non, v, p, r, e => by
    simp only [Rep, toPy] at r e
    cases e
    subst r
    exact .non
  | .bl b, v, p, r, e => by
    simp only [Rep, toPy] at r e
    cases e
    subst r
    exact .bl b
  | .int b, v, p, r, e => by
    simp only [Rep, toPy] at r e
    cases e
    subst r
    exact .int b
  | .str b, v, p, r, e => by
    simp only [Rep, toPy] at r e
    cases e
    subst r
    exact .str b
  | .tup l, v, p, r, e => by
    simp only [Rep, toPy] at r e
    obtain ⟨a, xs, rfl, h1, h2⟩ := r
    obtain ⟨ps, h3, rfl⟩ := Option.map_eq_some_iff.mp e
    exact .tup (hs.sqT h1) (dpL_of hs l xs ps h2 h3)
  | .lst l, v, p, r, e => by
    simp only [Rep, toPy] at r e
    obtain ⟨a, xs, rfl, h1, h2⟩ := r
    obtain ⟨ps, h3, rfl⟩ := Option.map_eq_some_iff.mp e
    exact .lst (SqL.of (hs _ _ h1)) (dpL_of hs l xs ps h2 h3)
  | .fz l, v, p, r, e => by
    simp only [Rep, toPy] at r e
    obtain ⟨a, xs, rfl, h1, h2⟩ := r
    obtain ⟨ps, h3, rfl⟩ := Option.map_eq_some_iff.mp e
    exact .lst (hs.sqL h1) (dpL_of hs l xs ps h2 h3)
  | .ty n, _, _, _, e => by simp [toPy] at e
  | .own n, _, _, _, e => by simp [toPy] at e
  | .adr _, _, _, _, e => by simp [toPy] at e
  | .lam _ _ _ _ _, _, _, _, e => by simp [toPy] at e
  | .err _ _ _ _, _, _, _, e => by simp [toPy] at e
theorem dpL_of (hs : Sub F H) : ∀ (ds : List D) (vs : List V) (ps : List PyData), RepL K al F ds vs → toPyL ds = some ps → DpAll K H vs ps
  | [], vs, ps, r, e => by
    simp only [RepL, toPyL] at r e
    cases e
    subst r
    exact .nil
  | d :: ds, vs, ps, r, e => by
    simp only [RepL, toPyL] at r e
    obtain ⟨v, t, rfl, h1, h2⟩ := r
    cases e1 : toPy d with
    | none =>
      rw [e1] at e
      cases e
    | some p =>
      cases e2 : toPyL ds with
      | none =>
        rw [e1, e2] at e
        cases e
      | some qs =>
        rw [e1, e2] at e
        cases e
        exact .cons (dp_of hs d v p h1 e1) (dpL_of hs ds t qs h2 e2)
end
end
/-- a list that is owned is looked up -/
def toPyM (d : D) (M : Mem) : Option PyData := match d with
  | .own n => match M[n]? with
    | some (some (.lst l)) => (toPyL l).map .list
    | _ => none
  | d => toPy d
theorem dpM_of {w : Vw} {d : D} {v : V} {p : PyData} (wr : WR X.K w) (r : Rp X.K w d v) (e : toPyM d w.M = some p) : Dp X.K w.H v p := by
  cases d with
  | own n =>
    simp only [Rp, Rep] at r
    obtain ⟨a, rfl, hn⟩ := r
    unfold toPyM at e
    cases em : w.M[n]? with
    | none =>
      simp only [em] at e
      cases e
    | some o =>
      cases o with
      | none =>
        simp only [em] at e
        cases e
      | some m =>
        have ob := wr.obj n a m hn em
        cases m with
        | lst l =>
          simp only [em] at e
          obtain ⟨xs, e1, e2⟩ := ob
          obtain ⟨ps, h3, rfl⟩ := Option.map_eq_some_iff.mp e
          exact .lst (SqL.of e1) (dpL_of (vis_sub w) l xs ps e2 h3)
        | dct l =>
          simp only [em] at e
          cases e
  | _ => exact dp_of (vis_sub w) _ _ _ r e
def eqD : G2 := fun x y M => match x, y with
  | .str a, .str b => .ok (.bl (decide (a = b))) M
  | x, y => match toPyM x M, toPyM y M with
    | some d, some e => if SeqAt.shaped d = true ∧ SeqAt.shaped e = true then .ok (.bl (PyData.eqv d e)) M else .bad
    | _, _ => .bad
def neD : G2 := fun x y M => match x, y with
  | .str a, .str b => .ok (.bl (!decide (a = b))) M
  | x, y => match toPyM x M, toPyM y M with
    | some d, some e => if SeqAt.shaped d = true ∧ SeqAt.shaped e = true then .ok (.bl (!PyData.eqv d e)) M else .bad
    | _, _ => .bad
theorem room64 {k : Nat} {A : Around} (h : Room k A) : A.units + 64 < cLine := h.units
theorem decV_str (a b : Str) : decide (V.str a = V.str b) = decide (a = b) := by
  by_cases h : a = b
  · subst h
    rw [decide_eq_true rfl, decide_eq_true rfl]
  · rw [decide_eq_false h, decide_eq_false fun z => h (V.str.inj z)]
theorem o_eq (hu : X.A.units + 64 < cLine) : OpD X (compareOp .Eq) eqD := ⟨_, op_eq.or (op_eqD hu), fun w x y vx vy Q E wr rx ry q => by
  unfold eqD at q
  split at q
  · rename_i a b
    obtain rfl := rp_str_inv rx
    obtain rfl := rp_str_inv ry
    refine .inl ⟨rfl, ?_⟩
    rw [decV_str]
    exact Aft.here q wr _ rp_bl
  · cases e1 : toPyM x w.M with
    | none =>
      rw [e1] at q
      exact q.elim
    | some d =>
      cases e2 : toPyM y w.M with
      | none =>
        rw [e1, e2] at q
        exact q.elim
      | some e =>
        rw [e1, e2] at q
        obtain ⟨⟨c1, c2⟩, q⟩ := aft_if q
        exact .inr ⟨d, e, dpM_of wr rx e1, dpM_of wr ry e2, c1, c2, Aft.here q wr _ rp_bl⟩⟩
theorem o_ne (hu : X.A.units + 64 < cLine) : OpD X (compareOp .NotEq) neD := ⟨_, op_ne.or (op_neD hu), fun w x y vx vy Q E wr rx ry q => by
  unfold neD at q
  split at q
  · rename_i a b
    obtain rfl := rp_str_inv rx
    obtain rfl := rp_str_inv ry
    refine .inl ⟨rfl, ?_⟩
    rw [decV_str]
    exact Aft.here q wr _ rp_bl
  · cases e1 : toPyM x w.M with
    | none =>
      rw [e1] at q
      exact q.elim
    | some d =>
      cases e2 : toPyM y w.M with
      | none =>
        rw [e1, e2] at q
        exact q.elim
      | some e =>
        rw [e1, e2] at q
        obtain ⟨⟨c1, c2⟩, q⟩ := aft_if q
        exact .inr ⟨d, e, dpM_of wr rx e1, dpM_of wr ry e2, c1, c2, Aft.here q wr _ rp_bl⟩⟩
/-- is None, is not None -/
def isNone : D → Bool
  | .non => true
  | _ => false
theorem isNone_eq {w : Vw} {d : D} {v : V} (r : Rp X.K w d v) : decide (v = V.non) = isNone d := by
  cases d <;> simp only [Rp, Rep] at r <;> first | (subst r; rfl) | (obtain ⟨e, _⟩ := r; subst e; rfl) | (obtain ⟨a, xs, rfl, _⟩ := r; rfl) | (obtain ⟨a, rfl, _⟩ := r; rfl)
def isND : G2 := fun x y M => match y with
  | .non => .ok (.bl (isNone x)) M
  | _ => .bad
def notND : G2 := fun x y M => match y with
  | .non => .ok (.bl (!isNone x)) M
  | _ => .bad
theorem o_is : OpD X (compareOp .Is) isND := ⟨_, op_isN, fun w x y vx vy Q E wr rx ry q => by
  cases y with
  | non =>
    obtain rfl := rp_non_inv ry
    refine ⟨rfl, ?_⟩
    rw [isNone_eq rx]
    exact Aft.here q wr _ rp_bl
  | _ => exact q.elim⟩
theorem o_isnot : OpD X (compareOp .IsNot) notND := ⟨_, op_notN, fun w x y vx vy Q E wr rx ry q => by
  cases y with
  | non =>
    obtain rfl := rp_non_inv ry
    refine ⟨rfl, ?_⟩
    rw [isNone_eq rx]
    exact Aft.here q wr _ rp_bl
  | _ => exact q.elim⟩

/-! ### subscripts, slices -/
def optR (o : Option D) (M : Mem) : Res D := match o with
  | some d => .ok d M
  | none => .bad
def ixD : G2 := fun x y M => match y with
  | .int i => match x with
    | .tup l => optR (atI l i) M
    | .lst l => optR (atI l i) M
    | .fz l => optR (atI l i) M
    | .own n => match M[n]? with
      | some (some (.lst l)) => optR (atI l i) M
      | _ => .bad
    | _ => .bad
  | _ => .bad
theorem atI_rel {K : PySem.W.Frag} {al : List Addr} {F : Hp} {ds : List D} {vs : List V} (h : RepL K al F ds vs) {i : Int} {d : D} (e : atI ds i = some d) : ∃ v, atI vs i = some v ∧ Rep K al F d v := by
  unfold atI at e ⊢
  rw [← h.length]
  obtain ⟨j, h1, h2⟩ := Option.bind_eq_some_iff.mp e
  obtain ⟨v, h3, h4⟩ := h.get h2
  exact ⟨v, by rw [h1]; exact h3, h4⟩
theorem aft_opt {K : PySem.W.Frag} {mg : Str → Option Value} {w : Vw} {E : XK} {o : Option D} {M : Mem} {Q : Vw → D → Prop} (h : Aft K mg w (optR o M) Q E) : ∃ d, o = some d ∧ Aft K mg w (.ok d M) Q E := by
  cases o with
  | none => exact h.elim
  | some d => exact ⟨d, rfl, h⟩
theorem x_ix : IxD X ixD := ⟨_, ix_list.or ix_tup, fun w x y vx vy Q E wr rx ry q => by
  cases y with
  | int i =>
    obtain rfl := rp_int_inv ry
    cases x with
    | tup l =>
      simp only [Rp, Rep] at rx
      obtain ⟨a, vs, rfl, hs, hl⟩ := rx
      obtain ⟨d, e, q⟩ := aft_opt q
      obtain ⟨v, h1, h2⟩ := atI_rel hl e
      exact .inr ⟨a, vs, i, v, rfl, rfl, (vis_sub w).sqT hs, h1, Aft.here q wr _ h2⟩
    | lst l =>
      simp only [Rp, Rep] at rx
      obtain ⟨a, vs, rfl, hs, hl⟩ := rx
      obtain ⟨d, e, q⟩ := aft_opt q
      obtain ⟨v, h1, h2⟩ := atI_rel hl e
      exact .inl ⟨a, vs, i, v, rfl, rfl, SqL.of (vis_sub w _ _ hs), h1, Aft.here q wr _ h2⟩
    | fz l =>
      simp only [Rp, Rep] at rx
      obtain ⟨a, vs, rfl, hs, hl⟩ := rx
      obtain ⟨d, e, q⟩ := aft_opt q
      obtain ⟨v, h1, h2⟩ := atI_rel hl e
      exact .inl ⟨a, vs, i, v, rfl, rfl, (vis_sub w).sqL hs, h1, Aft.here q wr _ h2⟩
    | own n =>
      simp only [Rp, Rep] at rx
      obtain ⟨a, rfl, hn⟩ := rx
      unfold ixD at q
      cases em : w.M[n]? with
      | none =>
        simp only [em] at q
        exact q.elim
      | some o =>
        cases o with
        | none =>
          simp only [em] at q
          exact q.elim
        | some m =>
          have ob := wr.obj n a m hn em
          cases m with
          | lst l =>
            simp only [em] at q
            obtain ⟨xs, e1, e2⟩ := ob
            obtain ⟨d, e, q⟩ := aft_opt q
            obtain ⟨v, h1, h2⟩ := atI_rel e2 e
            exact .inl ⟨a, xs, i, v, rfl, rfl, SqL.of e1, h1, Aft.here q wr _ h2⟩
          | dct l =>
            simp only [em] at q
            exact q.elim
    | _ => exact q.elim
  | _ => exact q.elim⟩
def cutD (xs : List D) (lo hi : Option Int) : List D := (xs.drop (HT.sIx xs.length 0 lo)).take (HT.sIx xs.length xs.length hi - HT.sIx xs.length 0 lo)
theorem cut_rel {K : PySem.W.Frag} {al : List Addr} {F : Hp} {ds : List D} {vs : List V} (h : RepL K al F ds vs) (lo hi : Option Int) : RepL K al F (cutD ds lo hi) (cutV vs lo hi) := by
  unfold cutD cutV
  rw [h.length]
  exact (h.drop _).take _
def slD : GS := fun x lo hi M => match x with
  | .tup l => .ok (.tup (cutD l lo hi)) M
  | .lst l => .ok (.lst (cutD l lo hi)) M
  | .fz l => .ok (.lst (cutD l lo hi)) M
  | _ => .bad
theorem cut_whole {α : Type} {xs : List α} {lo hi : Nat} (h : lo = 0 ∧ hi = xs.length) : (xs.drop lo).take (hi - lo) = xs := by
  obtain ⟨rfl, rfl⟩ := h
  simp
theorem x_sl : SlD X slD := ⟨_, sl_list.or sl_tupA, fun w x vx lo hi Q E wr rx q => by
  cases x with
  | tup l =>
    have rx0 := rx
    simp only [Rp, Rep] at rx
    obtain ⟨a, vs, rfl, hs, hl⟩ := rx
    refine .inr ⟨a, vs, rfl, (vis_sub w).sqT hs, fun e => ?_, fun _ => fin_tup wr (cut_rel hl lo hi) q⟩
    have e2 : cutD l lo hi = l := by
      unfold cutD
      rw [hl.length]
      exact cut_whole ⟨e.1, by rw [hl.length]; exact e.2⟩
    have q2 : Aft X.K X.mg w (.ok (.tup (cutD l lo hi)) w.M) (fun w' d => ∀ v, Rp X.K w' d v → Q v w'.H) E := q
    rw [e2] at q2
    exact Aft.here q2 wr _ rx0
  | lst l =>
    simp only [Rp, Rep] at rx
    obtain ⟨a, vs, rfl, hs, hl⟩ := rx
    exact .inl ⟨a, vs, rfl, SqL.of (vis_sub w _ _ hs), fin_lst wr (cut_rel hl lo hi) q⟩
  | fz l =>
    simp only [Rp, Rep] at rx
    obtain ⟨a, vs, rfl, hs, hl⟩ := rx
    exact .inl ⟨a, vs, rfl, (vis_sub w).sqL hs, fin_lst wr (cut_rel hl lo hi) q⟩
  | _ => exact q.elim⟩

/-! ### built-in functions -/
theorem repL1 {w : Vw} {d : D} {vs : List V} (h : RpL X.K w [d] vs) : ∃ v, vs = [v] ∧ Rp X.K w d v := by
  simp only [RpL, RepL] at h
  obtain ⟨v, r, rfl, h1, rfl⟩ := h
  exact ⟨v, rfl, h1⟩
theorem repL2 {w : Vw} {d e : D} {vs : List V} (h : RpL X.K w [d, e] vs) : ∃ v u, vs = [v, u] ∧ Rp X.K w d v ∧ Rp X.K w e u := by
  simp only [RpL, RepL] at h
  obtain ⟨v, r, rfl, h1, u, t, rfl, h2, rfl⟩ := h
  exact ⟨v, u, rfl, h1, h2⟩
/-- of two whole numbers -/
def fII (C : Int → Int → Bool) (g : Int → Int → Int) : GL := fun xs M => match xs with
  | [.int i, .int j] => if C i j = true then .ok (.int (g i j)) M else .bad
  | _ => .bad
theorem fII_RLD {C : Int → Int → Bool} {g : Int → Int → Int} {r : List V → Hp → VK → Prop} (h : ∀ i j H Q, C i j = true → Q (.int (g i j)) H → r [.int i, .int j] H Q) : RLD X r (fII C g) := fun w xs vs Q E wr rx q => by
  unfold fII at q
  split at q
  · rename_i i j
    obtain ⟨v, u, rfl, h1, h2⟩ := repL2 rx
    obtain rfl := rp_int_inv h1
    obtain rfl := rp_int_inv h2
    obtain ⟨c, q⟩ := aft_if q
    exact h i j _ _ c (Aft.here q wr _ rp_int)
  · exact q.elim
def maxD : GL := fII (fun _ _ => true) fun i j => if j > i then j else i
def minD : GL := fII (fun _ _ => true) fun i j => if j < i then j else i
theorem f_max (hc : X.calm = true) : CallD X (.builtin "max") maxD := ⟨_, call_max2 hc, fII_RLD fun i j H Q _ q => ⟨i, j, rfl, q⟩⟩
theorem f_min (hc : X.calm = true) : CallD X (.builtin "min") minD := ⟨_, call_min2 hc, fII_RLD fun i j H Q _ q => ⟨i, j, rfl, q⟩⟩
def gcdD : GL := fII (fun _ _ => true) fun i j => ((Nat.gcd i.natAbs j.natAbs : Nat) : Int)
theorem f_gcd : CallD X (.builtin "math.gcd") gcdD := ⟨_, cr_gcd, fII_RLD fun i j H Q _ q => ⟨i, j, rfl, q⟩⟩
def lcmD : GL := fII (fun i j => decide (i.natAbs < 2 ^ 64) && decide (j.natAbs < 2 ^ 64)) fun i j => ((Nat.lcm i.natAbs j.natAbs : Nat) : Int)
theorem lcm_small {a b : Nat} (ha : a < 2 ^ 64) (hb : b < 2 ^ 64) : (a.lcm b).log2 < bitsLine := by
  have h1 : a.lcm b ≤ a * b := by unfold Nat.lcm; exact Nat.div_le_self _ _
  have h2 : a * b < 2 ^ 64 * 2 ^ 64 := Nat.mul_lt_mul'' ha hb
  have h3 : a.lcm b < 2 ^ 128 := Nat.lt_of_le_of_lt h1 (by rw [show (2 : Nat) ^ 128 = 2 ^ 64 * 2 ^ 64 by decide]; exact h2)
  have h4 := PySem.Flt.log2_lt_of (by decide) h3
  have e : bitsLine = 134217728 := by decide
  rw [e]
  omega
theorem f_lcm : CallD X (.builtin "math.lcm") lcmD := ⟨fun vs H Q => ∃ a b : Int, vs = [.int a, .int b] ∧ a.natAbs < 2 ^ 64 ∧ b.natAbs < 2 ^ 64 ∧ Q (.int ((Nat.lcm a.natAbs b.natAbs : Nat) : Int)) H, by
  intro pins s σ H vs us Q I r h
  obtain ⟨a, b, rfl, ha, hb, q⟩ := h
  obtain ⟨t, u, rfl⟩ := Vals.int2 r
  have e : (Nat.lcm 1 a.natAbs).lcm b.natAbs = a.natAbs.lcm b.natAbs := by rw [Nat.lcm_one_left]
  refine PySem.W.mg_lcm ha hb ?_ ⟨.int _, H, I.tok _, ⟨_, rfl⟩, ?_⟩
  · rw [e, Int.natAbs_natCast]
    exact lcm_small ha hb
  · rw [e]
    exact q, fII_RLD fun i j H Q c q => by
  rw [Bool.and_eq_true] at c
  exact ⟨i, j, rfl, of_decide_eq_true c.1, of_decide_eq_true c.2, q⟩⟩
def absD : GL := fun xs M => match xs with
  | [.int i] => .ok (.int (if i < 0 then -i else i)) M
  | _ => .bad
theorem f_abs : CallD X (.builtin "abs") absD := ⟨_, call_abs, fun w xs vs Q E wr rx q => by
  unfold absD at q
  split at q
  · rename_i i
    obtain ⟨v, rfl, h1⟩ := repL1 rx
    obtain rfl := rp_int_inv h1
    exact ⟨i, rfl, Aft.here q wr _ rp_int⟩
  · exact q.elim⟩
def intD : GL := fun xs M => match xs with
  | [.int i] => .ok (.int i) M
  | [.bl b] => .ok (.int (if b then 1 else 0)) M
  | _ => .bad
theorem f_int : CallD X (.type "int") intD := ⟨_, call_int1, fun w xs vs Q E wr rx q => by
  unfold intD at q
  split at q
  · rename_i i
    obtain ⟨v, rfl, h1⟩ := repL1 rx
    obtain rfl := rp_int_inv h1
    exact .inl ⟨i, rfl, Aft.here q wr _ rp_int⟩
  · rename_i b
    obtain ⟨v, rfl, h1⟩ := repL1 rx
    obtain rfl := rp_bl_inv h1
    exact .inr ⟨b, rfl, Aft.here q wr _ rp_int⟩
  · exact q.elim⟩
def strD : GL := fun xs M => match xs with
  | [.int i] => if i.natAbs.log2 < 1920 then .ok (.str (toString i)) M else .bad
  | _ => .bad
theorem f_str : CallD X (.type "str") strD := ⟨_, call_str_int, fun w xs vs Q E wr rx q => by
  unfold strD at q
  split at q
  · rename_i i
    obtain ⟨v, rfl, h1⟩ := repL1 rx
    obtain rfl := rp_int_inv h1
    obtain ⟨c, q⟩ := aft_if q
    exact ⟨i, rfl, c, Aft.here q wr _ rp_str⟩
  · exact q.elim⟩
def lenD : GL := fun xs M => match xs with
  | [.tup l] => .ok (.int l.length) M
  | [.lst l] => .ok (.int l.length) M
  | [.fz l] => .ok (.int l.length) M
  | [.own n] => match M[n]? with
    | some (some (.lst l)) => .ok (.int l.length) M
    | _ => .bad
  | _ => .bad
theorem f_len : CallD X (.builtin "len") lenD := ⟨_, call_len_seq, fun w xs vs Q E wr rx q => by
  unfold lenD at q
  split at q
  · rename_i l
    obtain ⟨v, rfl, h1⟩ := repL1 rx
    simp only [Rp, Rep] at h1
    obtain ⟨a, us, rfl, hs, hl⟩ := h1
    exact ⟨a, us, rfl, .inr ((vis_sub w).sqT hs), by rw [← hl.length]; exact Aft.here q wr _ rp_int⟩
  · rename_i l
    obtain ⟨v, rfl, h1⟩ := repL1 rx
    simp only [Rp, Rep] at h1
    obtain ⟨a, us, rfl, hs, hl⟩ := h1
    exact ⟨a, us, rfl, .inl (SqL.of (vis_sub w _ _ hs)), by rw [← hl.length]; exact Aft.here q wr _ rp_int⟩
  · rename_i l
    obtain ⟨v, rfl, h1⟩ := repL1 rx
    simp only [Rp, Rep] at h1
    obtain ⟨a, us, rfl, hs, hl⟩ := h1
    exact ⟨a, us, rfl, .inl ((vis_sub w).sqL hs), by rw [← hl.length]; exact Aft.here q wr _ rp_int⟩
  · rename_i n
    obtain ⟨v, rfl, h1⟩ := repL1 rx
    simp only [Rp, Rep] at h1
    obtain ⟨a, rfl, hn⟩ := h1
    split at q
    · rename_i l em
      obtain ⟨us, e1, e2⟩ := wr.obj n a _ hn em
      exact ⟨a, us, rfl, .inl (SqL.of e1), by rw [← e2.length]; exact Aft.here q wr _ rp_int⟩
    · exact q.elim
  · exact q.elim⟩
def boolsOf : List D → Option (List Bool)
  | [] => some []
  | .bl b :: l => (boolsOf l).map (b :: ·)
  | _ => none
def intsOf : List D → Option (List Int)
  | [] => some []
  | .int b :: l => (intsOf l).map (b :: ·)
  | _ => none
theorem bools_rel {K : PySem.W.Frag} {al : List Addr} {F : Hp} : ∀ {ds : List D} {vs : List V} {bs : List Bool}, RepL K al F ds vs → boolsOf ds = some bs → vs = bs.map V.bl
  | [], vs, bs, r, e => by
    simp only [RepL, boolsOf] at r e
    cases e
    subst r
    rfl
  | d :: ds, vs, bs, r, e => by
    simp only [RepL] at r
    obtain ⟨v, t, rfl, h1, h2⟩ := r
    cases d with
    | bl b =>
      simp only [boolsOf] at e
      obtain ⟨cs, h3, rfl⟩ := Option.map_eq_some_iff.mp e
      simp only [Rep] at h1
      rw [h1, bools_rel h2 h3]
      rfl
    | _ => simp [boolsOf] at e
theorem ints_rel {K : PySem.W.Frag} {al : List Addr} {F : Hp} : ∀ {ds : List D} {vs : List V} {bs : List Int}, RepL K al F ds vs → intsOf ds = some bs → vs = bs.map V.int
  | [], vs, bs, r, e => by
    simp only [RepL, intsOf] at r e
    cases e
    subst r
    rfl
  | d :: ds, vs, bs, r, e => by
    simp only [RepL] at r
    obtain ⟨v, t, rfl, h1, h2⟩ := r
    cases d with
    | int b =>
      simp only [intsOf] at e
      obtain ⟨cs, h3, rfl⟩ := Option.map_eq_some_iff.mp e
      simp only [Rep] at h1
      rw [h1, ints_rel h2 h3]
      rfl
    | _ => simp [intsOf] at e
def allD : GL := fun xs M => match xs with
  | [.lst l] => match boolsOf l with
    | some bs => .ok (.bl (bs.all id)) M
    | none => .bad
  | _ => .bad
def anyD : GL := fun xs M => match xs with
  | [.lst l] => match boolsOf l with
    | some bs => .ok (.bl (bs.any id)) M
    | none => .bad
  | _ => .bad
def sumD : GL := fun xs M => match xs with
  | [.lst l] => match intsOf l with
    | some bs => .ok (.int bs.sum) M
    | none => .bad
  | _ => .bad
theorem f_all (hc : X.calm = true) : CallD X (.builtin "all") allD := ⟨_, cr_all hc, fun w xs vs Q E wr rx q => by
  unfold allD at q
  split at q
  · rename_i l
    obtain ⟨v, rfl, h1⟩ := repL1 rx
    simp only [Rp, Rep] at h1
    obtain ⟨a, us, rfl, hs, hl⟩ := h1
    split at q
    · rename_i bs e
      obtain rfl := bools_rel hl e
      exact ⟨a, bs, rfl, SqL.of (vis_sub w _ _ hs), Aft.here q wr _ rp_bl⟩
    · exact q.elim
  · exact q.elim⟩
theorem f_any (hc : X.calm = true) : CallD X (.builtin "any") anyD := ⟨_, cr_any hc, fun w xs vs Q E wr rx q => by
  unfold anyD at q
  split at q
  · rename_i l
    obtain ⟨v, rfl, h1⟩ := repL1 rx
    simp only [Rp, Rep] at h1
    obtain ⟨a, us, rfl, hs, hl⟩ := h1
    split at q
    · rename_i bs e
      obtain rfl := bools_rel hl e
      exact ⟨a, bs, rfl, SqL.of (vis_sub w _ _ hs), Aft.here q wr _ rp_bl⟩
    · exact q.elim
  · exact q.elim⟩
theorem f_sum (hc : X.calm = true) : CallD X (.builtin "sum") sumD := ⟨_, cr_sum hc, fun w xs vs Q E wr rx q => by
  unfold sumD at q
  split at q
  · rename_i l
    obtain ⟨v, rfl, h1⟩ := repL1 rx
    simp only [Rp, Rep] at h1
    obtain ⟨a, us, rfl, hs, hl⟩ := h1
    split at q
    · rename_i bs e
      obtain rfl := ints_rel hl e
      exact ⟨a, bs, rfl, SqL.of (vis_sub w _ _ hs), Aft.here q wr _ rp_int⟩
    · exact q.elim
  · exact q.elim⟩
/-- list(x): a new list, seen or owned -/
def seqOf : D → Option (List D)
  | .tup l => some l
  | .lst l => some l
  | .fz l => some l
  | _ => none
theorem seq_rel {w : Vw} {d : D} {v : V} {l : List D} (r : Rp X.K w d v) (e : seqOf d = some l) : ∃ a vs, v = .ref a ∧ (SqL X.K w.H a vs ∨ SqT X.K w.H a vs) ∧ RpL X.K w l vs := by
  cases d with
  | tup l' =>
    cases e
    simp only [Rp, Rep] at r
    obtain ⟨a, us, rfl, hs, hl⟩ := r
    exact ⟨a, us, rfl, .inr ((vis_sub w).sqT hs), hl⟩
  | lst l' =>
    cases e
    simp only [Rp, Rep] at r
    obtain ⟨a, us, rfl, hs, hl⟩ := r
    exact ⟨a, us, rfl, .inl (SqL.of (vis_sub w _ _ hs)), hl⟩
  | fz l' =>
    cases e
    simp only [Rp, Rep] at r
    obtain ⟨a, us, rfl, hs, hl⟩ := r
    exact ⟨a, us, rfl, .inl ((vis_sub w).sqL hs), hl⟩
  | _ => cases e
def listD : GL := fun xs M => match xs with
  | [d] => match seqOf d with
    | some l => .ok (.lst l) M
    | none => .bad
  | _ => .bad
def listO : GL := fun xs M => match xs with
  | [d] => match seqOf d with
    | some l => .ok (.own M.length) (M ++ [some (.lst l)])
    | none => .bad
  | _ => .bad
theorem f_list : CallD X (.type "list") listD := ⟨_, call_list_of, fun w xs vs Q E wr rx q => by
  unfold listD at q
  split at q
  · rename_i d
    obtain ⟨v, rfl, h1⟩ := repL1 rx
    split at q
    · rename_i l e
      obtain ⟨a, us, rfl, hs, hl⟩ := seq_rel h1 e
      exact ⟨a, us, rfl, hs, fin_lst wr hl q⟩
    · exact q.elim
  · exact q.elim⟩
theorem f_listO : CallD X (.type "list") listO := ⟨_, call_list_of, fun w xs vs Q E wr rx q => by
  unfold listO at q
  split at q
  · rename_i d
    obtain ⟨v, rfl, h1⟩ := repL1 rx
    split at q
    · rename_i l e
      obtain ⟨a, us, rfl, hs, hl⟩ := seq_rel h1 e
      exact ⟨a, us, rfl, hs, fin_own (m := .lst l) wr (no_tbl trivial) ⟨us, rfl, hl⟩ q⟩
    · exact q.elim
  · exact q.elim⟩
/-- isinstance(x, T), T written -/
def tyName : D → Option String
  | .non => some "NoneType"
  | .bl _ => some "bool"
  | .int _ => some "int"
  | .str _ => some "str"
  | .tup _ => some "tuple"
  | .lst _ => some "list"
  | _ => none
def isiD (kit : String → String → Option Bool) : GL := fun xs M => match xs with
  | [x, .ty T] => match tyName x with
    | some t => match kit t T with
      | some b => .ok (.bl b) M
      | none => .bad
    | none => .bad
  | _ => .bad
theorem tyx_of {w : Vw} {d : D} {v : V} {t : String} (r : Rp X.K w d v) (e : tyName d = some t) : TyX X.K w.H v (.type t) := by
  cases d with
  | non =>
    cases e
    obtain rfl := rp_non_inv r
    exact .base .non
  | bl b =>
    cases e
    obtain rfl := rp_bl_inv r
    exact .base (.bl b)
  | int b =>
    cases e
    obtain rfl := rp_int_inv r
    exact .base (.int b)
  | str b =>
    cases e
    obtain rfl := rp_str_inv r
    exact .base (.str b)
  | tup l =>
    cases e
    simp only [Rp, Rep] at r
    obtain ⟨a, us, rfl, hs, hl⟩ := r
    rcases hs with (hs | ⟨o, hs⟩) | ⟨o, its, n, hk, hc, _⟩
    · exact .base (.tup (vis_sub w _ _ hs))
    · exact .fTuple (vis_sub w _ _ hs)
    · exact .kTuple hk hc
  | lst l =>
    cases e
    simp only [Rp, Rep] at r
    obtain ⟨a, us, rfl, hs, hl⟩ := r
    exact .base (.lst (vis_sub w _ _ hs))
  | _ => cases e
theorem f_isi {kit : String → String → Option Bool} (hk : ∀ t T b, kit t T = some b → PySem.W.kitOne X.K (.type t) (.type T) = some b) : CallD X (.builtin "isinstance") (isiD kit) := ⟨_, call_isi, fun w xs vs Q E wr rx q => by
  unfold isiD at q
  split at q
  · rename_i x T
    obtain ⟨v, u, rfl, h1, h2⟩ := repL2 rx
    obtain rfl := rp_ty_inv h2
    split at q
    · rename_i t e
      split at q
      · rename_i b eb
        exact ⟨v, .ty T, .type t, .type T, b, rfl, .ty T, tyx_of h1 e, hk t T b eb, Aft.here q wr _ rp_bl⟩
      · exact q.elim
    · exact q.elim
  · exact q.elim⟩
/-- repr(x), where nothing else is being shown -/
def reprD : GL := fun xs M => match xs with
  | [d] => match toPyM d M with
    | some p => if p.showable = true ∧ p.depth ≤ 40 ∧ p.shown.length ≤ 16000000 ∧ p.hasDict = false then .ok (.str p.shown) M else .bad
    | none => .bad
  | _ => .bad
end DL
namespace DL
open PySem PySem.Spec L2
variable [TabsOf]
variable {X : Cx} {W : WX}

/-! ### blocks and small statements -/
abbrev SD := Env → Mem → SR
def sNil : SD := fun ρ M => .nx ρ M
def sSeq (a b : SD) : SD := fun ρ M => match a ρ M with
  | .nx ρ' M' => b ρ' M'
  | r => r
theorem ds_nil : PSs X [] (tS X W sNil) := PSs.imp pss_nil fun Dn σ H ⟨w, ρ, hH, wr, sl, q⟩ => by
  subst hH
  exact q w σ (Ext.refl w) rfl wr sl
theorem ds_cons {st : Stmt} {rest : List Stmt} {a b : SD} (h1 : PS X st (tS X W a)) (h2 : PSs X rest (tS X W b)) : PSs X (st :: rest) (tS X W (sSeq a b)) := PSs.imp (pss_cons h1 h2) fun Dn σ H ⟨w, ρ, hH, wr, sl, q⟩ => by
  subst hH
  refine ⟨w, ρ, rfl, wr, sl, ?_⟩
  unfold sSeq at q
  cases e : a ρ w.M with
  | nx ρ' M' =>
    rw [e] at q
    intro w' σ' ext hM wr' sl'
    refine ⟨w', ρ', rfl, wr', sl', ?_⟩
    rw [hM]
    exact AftS.ext q ext
  | _ =>
    rw [e] at q
    exact q
theorem ds_one {st : Stmt} {a : SD} (h1 : PS X st (tS X W a)) : PSs X [st] (tS X W a) := pss_one h1
def sPass : SD := sNil
def sBreak : SD := fun ρ M => .bk ρ M
def sCont : SD := fun ρ M => .ct ρ M
theorem ds_pass {pos : Pos} : PS X (.Pass pos) (tS X W sPass) := PS.imp ps_pass fun Dn σ H ⟨w, ρ, hH, wr, sl, q⟩ => by
  subst hH
  exact q w σ (Ext.refl w) rfl wr sl
theorem ds_break {pos : Pos} : PS X (.Break pos) (tS X W sBreak) := PS.imp ps_break fun Dn σ H ⟨w, ρ, hH, wr, sl, q⟩ => by
  subst hH
  exact q w σ (Ext.refl w) rfl wr sl
theorem ds_cont {pos : Pos} : PS X (.Continue pos) (tS X W sCont) := PS.imp ps_continue fun Dn σ H ⟨w, ρ, hH, wr, sl, q⟩ => by
  subst hH
  exact q w σ (Ext.refl w) rfl wr sl
def sExpr (m : Env → Mem → Res D) : SD := fun ρ M => liftR (m ρ M) ρ fun _ M' => .nx ρ M'
def sRet (m : Env → Mem → Res D) : SD := fun ρ M => liftR (m ρ M) ρ fun d M' => .rt d M'
def sRetN : SD := fun _ M => .rt .non M
def sIf (c : Env → Mem → Res Bool) (a b : SD) : SD := fun ρ M => liftR (c ρ M) ρ fun k M' => if k = true then a ρ M' else b ρ M'
theorem ds_expr {e : Expr} {m : Env → Mem → Res D} {pos : Pos} (he : PE X e (tE X W m)) (hs : swapsWith e none pos.line X.env = pure false := by rfl) : PS X (.Expr e pos) (tS X W (sExpr m)) := PS.imp (ps_expr he hs) fun Dn σ H ⟨w, ρ, hH, wr, sl, q⟩ => by
  subst hH
  unfold tDrop
  exact tR_stepS wr sl q fun w' d v ext wr' sl' r q' => q' w' σ (Ext.refl w') rfl wr' sl'
theorem ds_ret {e : Expr} {m : Env → Mem → Res D} {pos : Pos} (he : PE X e (tE X W m)) : PS X (.Return (some e) pos) (tS X W (sRet m)) := PS.imp (ps_ret he) fun Dn σ H ⟨w, ρ, hH, wr, sl, q⟩ => by
  subst hH
  unfold tRet
  exact tR_stepS wr sl q fun w' d v ext wr' sl' r q' => q' w' v (Ext.refl w') rfl wr' r
theorem ds_retN {pos : Pos} : PS X (.Return none pos) (tS X W sRetN) := PS.imp ps_retN fun Dn σ H ⟨w, ρ, hH, wr, sl, q⟩ => by
  subst hH
  exact q w .non (Ext.refl w) rfl wr rp_non
theorem ds_if {c : Expr} {a b : List Stmt} {mc : Env → Mem → Res Bool} {ma mb : SD} {pos : Pos} (hc : PT X c (tT X W mc)) (ha : PSs X a (tS X W ma)) (hb : PSs X b (tS X W mb)) : PS X (.If c a b pos) (tS X W (sIf mc ma mb)) := PS.imp (ps_if hc ha hb) fun Dn σ H ⟨w, ρ, hH, wr, sl, q⟩ => by
  subst hH
  unfold tIfS
  refine tR_stepS wr sl q fun w' d v ext wr' sl' r q' => ?_
  subst r
  cases v with
  | true =>
    rw [if_pos rfl] at q' ⊢
    exact ⟨w', ρ, rfl, wr', sl', q'⟩
  | false =>
    rw [if_neg (by decide)] at q' ⊢
    exact ⟨w', ρ, rfl, wr', sl', q'⟩

/-! ### targets -/
inductive Pat where
  | nm (i : Nat)
  | tp (l : List Pat)
mutual
def Pat.asg : Pat → D → Env → Option Env
  | .nm i, d, ρ => some (ρ.set i (some d))
  | .tp ps, .tup ds, ρ => asgL ps ds ρ
  | .tp ps, .lst ds, ρ => asgL ps ds ρ
  | _, _, _ => none
def asgL : List Pat → List D → Env → Option Env
  | [], [], ρ => some ρ
  | p :: ps, d :: ds, ρ => (p.asg d ρ).bind (asgL ps ds)
  | _, _, _ => none
end
mutual
def Pat.slots : Pat → List Nat
  | .nm i => [i]
  | .tp ps => slotsL ps
def slotsL : List Pat → List Nat
  | [] => []
  | p :: ps => p.slots ++ slotsL ps
end
def OnlyAt (l : List Nat) (σ σ' : L2.St) : Prop := σ'.length = σ.length ∧ ∀ i, i ∉ l → σ'[i]? = σ[i]?
theorem OnlyAt.refl (l : List Nat) (σ : L2.St) : OnlyAt l σ σ := ⟨rfl, fun _ _ => rfl⟩
theorem OnlyAt.trans {l l' : List Nat} {σ σ1 σ2 : L2.St} (a : OnlyAt l σ σ1) (b : OnlyAt l' σ1 σ2) : OnlyAt (l ++ l') σ σ2 :=
  ⟨b.1.trans a.1, fun i hi => (b.2 i fun z => hi (List.mem_append_right _ z)).trans (a.2 i fun z => hi (List.mem_append_left _ z))⟩
def tG (X : Cx) (p : Pat) : TG := fun v σ H Q => ∃ w ρ d ρ', w.H = H ∧ WR X.K w ∧ Slots X.K w ρ σ ∧ Rp X.K w d v ∧ p.asg d ρ = some ρ' ∧ ∀ σ', Slots X.K w ρ' σ' → OnlyAt p.slots σ σ' → Q σ' H
def tGs (X : Cx) (ps : List Pat) : TGs := fun vs σ H Q => ∃ w ρ ds ρ', w.H = H ∧ WR X.K w ∧ Slots X.K w ρ σ ∧ RpL X.K w ds vs ∧ asgL ps ds ρ = some ρ' ∧ ∀ σ', Slots X.K w ρ' σ' → OnlyAt (slotsL ps) σ σ' → Q σ' H
theorem PGs.imp {X : Cx} {e : List Expr} {t t' : TGs} (h : PGs X e t) (i : ∀ v σ H Q, t' v σ H Q → t v σ H Q) : PGs X e t' := ⟨fun pins s σ H v u Q I r q => h.run pins s σ H v u Q I r (i _ _ _ _ q)⟩
theorem PG.either {X : Cx} {e : Expr} {t u : TG} (h : PG X e t) (h' : PG X e u) : PG X e (fun v σ H Q => t v σ H Q ∨ u v σ H Q) := ⟨fun pins s σ H v z Q I r q => q.elim (h.run pins s σ H v z Q I r) (h'.run pins s σ H v z Q I r)⟩
theorem dg_name {i : Nat} {e : Expr} (h : PG X e (gName i)) : PG X e (tG X (.nm i)) := PG.imp h fun v σ H Q ⟨w, ρ, d, ρ', hH, wr, sl, r, e, q⟩ => by
  simp only [Pat.asg] at e
  cases e
  refine q _ (sl.set i r) ⟨by simp, fun j hj => ?_⟩
  have hij : i ≠ j := fun z => hj (by simp [Pat.slots, z])
  rw [List.getElem?_set_ne hij]
theorem dg_nil : PGs X [] (tGs X []) := PGs.imp pgs_nil fun vs σ H Q ⟨w, ρ, ds, ρ', hH, wr, sl, r, e, q⟩ => by
  cases ds with
  | nil =>
    simp only [asgL] at e
    cases e
    have e2 : vs = [] := by simpa only [RpL, RepL] using r
    exact ⟨e2, q σ sl (OnlyAt.refl _ _)⟩
  | cons d ds => simp [asgL] at e
theorem dg_cons {e : Expr} {es : List Expr} {p : Pat} {ps : List Pat} (h1 : PG X e (tG X p)) (h2 : PGs X es (tGs X ps)) (hs : (assignEach (e :: es) X.env).map (·.2) = assign e X.env :: (assignEach es X.env).map (·.2) := by rfl) :
    PGs X (e :: es) (tGs X (p :: ps)) := PGs.imp (pgs_cons h1 h2 hs) fun vs σ H Q ⟨w, ρ, ds, ρ', hH, wr, sl, r, e, q⟩ => by
  cases ds with
  | nil => simp [asgL] at e
  | cons d ds =>
    simp only [asgL] at e
    obtain ⟨ρ1, e1, e2⟩ := Option.bind_eq_some_iff.mp e
    simp only [RpL, RepL] at r
    obtain ⟨v, t, rfl, r1, r2⟩ := r
    refine ⟨v, t, rfl, w, ρ, d, ρ1, hH, wr, sl, r1, e1, fun σ1 sl1 o1 => ?_⟩
    exact ⟨w, ρ1, ds, ρ', hH, wr, sl1, r2, e2, fun σ2 sl2 o2 => q σ2 sl2 (by simp only [slotsL]; exact o1.trans o2)⟩
theorem dg_tup {es : List Expr} {k : Nat} {ps : List Pat} {pos : Pos} {n : Nat} (hc : X.calm = true) (h : PGs X es (tGs X ps)) (hn : (assignEach es X.env).length = n := by rfl) (hst : (assignEach es X.env).findIdx? (·.1) = none := by rfl) (hp : ps.length = n := by rfl) :
    PG X (.Tuple es k pos) (tG X (.tp ps)) := PG.imp (PG.either (pg_tup hc h hn hst) (pg_lst hc h hn hst)) fun v σ H Q ⟨w, ρ, d, ρ', hH, wr, sl, r, e, q⟩ => by
  have lens : ∀ {ps : List Pat} {ds : List D} {ρ ρ' : Env}, asgL ps ds ρ = some ρ' → ps.length = ds.length := by
    intro ps
    induction ps with
    | nil =>
      intro ds ρ ρ' e
      cases ds with
      | nil => rfl
      | cons _ _ => simp [asgL] at e
    | cons p ps ih =>
      intro ds ρ ρ' e
      cases ds with
      | nil => simp [asgL] at e
      | cons d ds =>
        simp only [asgL] at e
        obtain ⟨ρ1, e1, e2⟩ := Option.bind_eq_some_iff.mp e
        simp [ih e2]
  subst hH
  cases d with
  | tup ds =>
    simp only [Pat.asg] at e
    simp only [Rp, Rep] at r
    obtain ⟨a, vs, rfl, hs, hl⟩ := r
    exact .inl ⟨a, vs, rfl, (vis_sub w).sqT hs, by rw [← hl.length, ← lens e]; exact hp, w, ρ, ds, ρ', rfl, wr, sl, hl, e, fun σ' s1 o1 => q σ' s1 (by simpa only [Pat.slots] using o1)⟩
  | lst ds =>
    simp only [Pat.asg] at e
    simp only [Rp, Rep] at r
    obtain ⟨a, vs, rfl, hs, hl⟩ := r
    exact .inr ⟨a, vs, rfl, SqL.of (vis_sub w _ _ hs), by rw [← hl.length, ← lens e]; exact hp, w, ρ, ds, ρ', rfl, wr, sl, hl, e, fun σ' s1 o1 => q σ' s1 (by simpa only [Pat.slots] using o1)⟩
  | _ => simp [Pat.asg] at e
def asgR (o : Option Env) (M : Mem) : SR := match o with
  | some ρ => .nx ρ M
  | none => .bad
def sAsg (p : Pat) (m : Env → Mem → Res D) : SD := fun ρ M => liftR (m ρ M) ρ fun d M' => asgR (p.asg d ρ) M'
theorem t_asg {p : Pat} {m : Env → Mem → Res D} {Dn : Ends} {σ : L2.St} {H : Hp} (h : tS X W (sAsg p m) Dn σ H) : tAsg (tE X W m) (tG X p) Dn σ H := by
  obtain ⟨w, ρ, hH, wr, sl, q⟩ := h
  subst hH
  unfold tAsg
  refine tR_stepS wr sl q fun w' d v ext wr' sl' r q' => ?_
  cases e : p.asg d ρ with
  | none =>
    rw [e] at q'
    exact q'.elim
  | some ρ' =>
    rw [e] at q'
    exact ⟨w', ρ, d, ρ', rfl, wr', sl', r, e, fun σ' s1 _ => q' w' σ' (Ext.refl w') rfl wr' s1⟩
theorem ds_asg {tg e : Expr} {m : Env → Mem → Res D} {p : Pat} {pos : Pos} (he : PE X e (tE X W m)) (hg : PG X tg (tG X p)) (hs : swapsWithSole [tg] e pos.line X.env = pure false := by rfl) (hw : swappedStores [tg] e X.env = pure none := by rfl)
    (h1 : (assignEach [tg] X.env).map (·.2) = [assign tg X.env] := by rfl) : PS X (.Assign [tg] e pos) (tS X W (sAsg p m)) := PS.imp (ps_asg he hg hs hw h1) fun _ _ _ h => t_asg h
theorem t_nm {i : Nat} {m : Env → Mem → Res D} {Dn : Ends} {σ : L2.St} {H : Hp} (h : tS X W (sAsg (.nm i) m) Dn σ H) : tAsg (tE X W m) (gName i) Dn σ H := by
  obtain ⟨w, ρ, hH, wr, sl, q⟩ := h
  subst hH
  unfold tAsg
  refine tR_stepS wr sl q fun w' d v ext wr' sl' r q' => ?_
  simp only [Pat.asg, asgR] at q'
  exact q' w' _ (Ext.refl w') rfl wr' (sl'.set i r)
theorem ds_set {i : Nat} {x : Str} {e : Expr} {m : Env → Mem → Res D} {pos pos' : Pos} (hN : X.N.Nodup) (hi : X.N[i]? = some x) (hx : Loc X.env.scope x) (he : PE X e (tE X W m)) (hs : swapsWith e (some (.Name x pos')) pos.line X.env = pure false := by rfl)
    (hf : X.fn x = true ∨ X.env.scope.names.lookup x = some .local := by first | exact .inl rfl | exact .inr rfl | assumption) : PS X (.Assign [.Name x pos'] e pos) (tS X W (sAsg (.nm i) m)) := PS.imp (ps_set hN hi hx he hs hf) fun _ _ _ h => t_nm h
/-- a, b = x, y and a, b, c = x, y, z of plain local names -/
def sPar (l : List Nat) (m : Env → Mem → Res (List D)) : SD := fun ρ M => liftR (m ρ M) ρ fun ds M' => asgR (asgL (l.map Pat.nm) ds ρ) M'
theorem ds_par {i j : Nat} {x y : Str} {a b : Expr} {m : Env → Mem → Res (List D)} {px py pt pos : Pos} {kt k2 pt2} (hc : X.calm = true) (hN : X.N.Nodup) (hi : X.N[i]? = some x) (hj : X.N[j]? = some y) (hij : i ≠ j)
    (hx : X.env.scope.names.lookup x = some .local) (hy : X.env.scope.names.lookup y = some .local) (ha : PA X [a, b] (tA X W m))
    (hw : swappedStores [.Tuple [.Name x px, .Name y py] kt pt] (.Tuple [a, b] k2 pt2) X.env = pure (some [x, y]) := by rfl)
    (hs : swapsWithSole [.Tuple [.Name x px, .Name y py] kt pt] (.Tuple [a, b] k2 pt2) pos.line X.env = pure false := by rfl) :
    PS X (.Assign [.Tuple [.Name x px, .Name y py] kt pt] (.Tuple [a, b] k2 pt2) pos) (tS X W (sPar [i, j] m)) := PS.imp (ps_par hc hN hi hj hij hx hy ha hw hs) fun Dn σ H ⟨w, ρ, hH, wr, sl, q⟩ => by
  subst hH
  unfold tPar
  refine tR_stepS (k := fun ds M' => asgR (asgL ([i, j].map Pat.nm) ds ρ) M') wr sl q fun w' ds vs ext wr' sl' r q' => ?_
  match ds, q' with
  | [], q' => exact (by simpa [asgL, asgR, AftS] using q')
  | [_], q' => exact (by simpa [asgL, asgR, AftS, Pat.asg] using q')
  | [d, e], q' =>
    obtain ⟨v, u, rfl, r1, r2⟩ := repL2 r
    exact ⟨v, u, rfl, q' w' _ (Ext.refl w') rfl wr' ((sl'.set i r1).set j r2)⟩
  | _ :: _ :: _ :: _, q' => exact (by simpa [asgL, asgR, AftS, Pat.asg] using q')
theorem ds_par3 {i j l : Nat} {x y z : Str} {a b c : Expr} {m : Env → Mem → Res (List D)} {px py pz pt pos : Pos} {kt k2 pt2} (hc : X.calm = true) (hN : X.N.Nodup) (hi : X.N[i]? = some x) (hj : X.N[j]? = some y) (hl : X.N[l]? = some z) (hij : i ≠ j) (hil : i ≠ l) (hjl : j ≠ l)
    (hx : X.env.scope.names.lookup x = some .local) (hy : X.env.scope.names.lookup y = some .local) (hz : X.env.scope.names.lookup z = some .local) (ha : PA X [a, b, c] (tA X W m))
    (hw : swappedStores [.Tuple [.Name x px, .Name y py, .Name z pz] kt pt] (.Tuple [a, b, c] k2 pt2) X.env = pure (some [x, y, z]) := by rfl)
    (hs : swapsWithSole [.Tuple [.Name x px, .Name y py, .Name z pz] kt pt] (.Tuple [a, b, c] k2 pt2) pos.line X.env = pure false := by rfl) :
    PS X (.Assign [.Tuple [.Name x px, .Name y py, .Name z pz] kt pt] (.Tuple [a, b, c] k2 pt2) pos) (tS X W (sPar [i, j, l] m)) := PS.imp (ps_par3 hc hN hi hj hl hij hil hjl hx hy hz ha hw hs) fun Dn σ H ⟨w, ρ, hH, wr, sl, q⟩ => by
  subst hH
  unfold tPar3
  refine tR_stepS (k := fun ds M' => asgR (asgL ([i, j, l].map Pat.nm) ds ρ) M') wr sl q fun w' ds vs ext wr' sl' r q' => ?_
  match ds, q' with
  | [], q' => exact (by simpa [asgL, asgR, AftS] using q')
  | [_], q' => exact (by simpa [asgL, asgR, AftS, Pat.asg] using q')
  | [_, _], q' => exact (by simpa [asgL, asgR, AftS, Pat.asg] using q')
  | [d, e, f], q' =>
    simp only [RpL, RepL] at r
    obtain ⟨v, t1, rfl, r1, u, t2, rfl, r2, o, t3, rfl, r3, rfl⟩ := r
    exact ⟨v, u, o, rfl, q' w' _ (Ext.refl w') rfl wr' (((sl'.set i r1).set j r2).set l r3)⟩
  | _ :: _ :: _ :: _ :: _, q' => exact (by simpa [asgL, asgR, AftS, Pat.asg] using q')

/-! ### while -/
def sWhile : Nat → (Env → Mem → Res Bool) → SD → SD
  | 0, _, _ => fun _ _ => .bad
  | n + 1, c, b => fun ρ M => liftR (c ρ M) ρ fun k M1 => if k = true then (match b ρ M1 with
    | .nx ρ' M' => sWhile n c b ρ' M'
    | .ct ρ' M' => sWhile n c b ρ' M'
    | .bk ρ' M' => .nx ρ' M'
    | r => r) else .nx ρ M1
theorem ds_while (n : Nat) {c : Expr} {body : List Stmt} {mc : Env → Mem → Res Bool} {mb : SD} {pos : Pos} (hp : PassesOwn (model X.prog X.w) X.A X.env X.xe) (hc : PT X c (tT X W mc)) (hb : PSs X body (tS X W mb)) :
    PS X (.While c body [] pos) (tS X W (sWhile n mc mb)) := PS.imp (ps_while hp hc hb) fun Dn σ H ⟨w, ρ, hH, wr, sl, q⟩ => by
  subst hH
  refine ⟨fun m σ H => ∃ w ρ, w.H = H ∧ WR X.K w ∧ Slots X.K w ρ σ ∧ AftS X.K X.mg w (sWhile m mc mb ρ w.M) W Dn, ⟨n, w, ρ, rfl, wr, sl, q⟩, ?_⟩
  rintro m σ H ⟨w, ρ, rfl, wr, sl, q⟩
  cases m with
  | zero => exact q.elim
  | succ m =>
    refine tR_stepS wr sl q fun w1 k v ext wr1 sl1 r q1 => ?_
    subst r
    cases v with
    | false =>
      rw [if_neg (by decide)] at q1 ⊢
      exact q1 w1 σ (Ext.refl w1) rfl wr1 sl1
    | true =>
      rw [if_pos rfl] at q1 ⊢
      refine ⟨fun σ' H' => ∃ w ρ, w.H = H' ∧ WR X.K w ∧ Slots X.K w ρ σ' ∧ AftS X.K X.mg w (sWhile m mc mb ρ w.M) W Dn, fun σ' H' z => ⟨m, Nat.lt_succ_self m, z⟩, ?_⟩
      refine ⟨w1, ρ, rfl, wr1, sl1, ?_⟩
      cases e : mb ρ w1.M with
      | nx ρ' M' =>
        rw [e] at q1
        exact fun w' σ' ext hM wr' sl' => ⟨w', ρ', rfl, wr', sl', by rw [hM]; exact AftS.ext q1 ext⟩
      | ct ρ' M' =>
        rw [e] at q1
        exact fun w' σ' ext hM wr' sl' => ⟨w', ρ', rfl, wr', sl', by rw [hM]; exact AftS.ext q1 ext⟩
      | bk ρ' M' =>
        rw [e] at q1
        exact q1
      | rt d M' =>
        rw [e] at q1
        exact q1
      | exc x ρ' M' =>
        rw [e] at q1
        exact q1
      | bad =>
        rw [e] at q1
        exact q1

/-! ### what is walked -/
/-- more is seen -/
structure Gr (w w' : Vw) : Prop where
  al : w.al <+: w'.al
  vis : Sub w.vis w'.vis
theorem Gr.refl (w : Vw) : Gr w w := ⟨List.prefix_refl _, Sub.refl _⟩
theorem Gr.trans {w w1 w2 : Vw} (a : Gr w w1) (b : Gr w1 w2) : Gr w w2 := ⟨a.al.trans b.al, a.vis.trans b.vis⟩
theorem Ext.gr {w w' : Vw} (e : Ext w w') : Gr w w' := ⟨e.al, e.vis⟩
theorem Gr.rp {K : PySem.W.Frag} {w w' : Vw} (e : Gr w w') {d : D} {v : V} (r : Rp K w d v) : Rp K w' d v := Rep.mono e.al e.vis r
theorem Gr.rpL {K : PySem.W.Frag} {w w' : Vw} (e : Gr w w') {d : List D} {v : List V} (r : RpL K w d v) : RpL K w' d v := RepL.mono e.al e.vis r
theorem Gr.slots {K : PySem.W.Frag} {w w' : Vw} (e : Gr w w') {ρ : Env} {σ : L2.St} (s : Slots K w ρ σ) : Slots K w' ρ σ :=
  ⟨s.len, fun i d h => let ⟨v, h1, h2⟩ := s.at_ i d h; ⟨v, h1, e.rp h2⟩⟩
structure Goes (K : PySem.W.Frag) (J : It) (ds : List D) (w : Vw) : Prop where
  go : ∀ w' i, Gr w w' → WR K w' → i < ds.length → J.go i w'.H
  stop : ∀ w', Gr w w' → WR K w' → J.stop ds.length w'.H
  yld : ∀ w' i x H', Gr w w' → WR K w' → i < ds.length → J.yld i w'.H x H' → ∃ d w'', ds[i]? = some d ∧ w''.H = H' ∧ w''.M = w'.M ∧ Ext w' w'' ∧ WR K w'' ∧ Rp K w'' d x
def tI (X : Cx) (W : WX) (m : Env → Mem → Res (List D)) : TI := fun σ H R => ∃ w ρ, w.H = H ∧ WR X.K w ∧ Slots X.K w ρ σ ∧ Aft X.K X.mg w (m ρ w.M) (fun w' ds => ∀ J, Goes X.K J ds w' → R J w'.H) (fun c dx H' => W c dx σ H')
theorem PI.imp {X : Cx} {tg iter : Expr} {t t' : TI} (h : PI X tg iter t) (i : ∀ σ H R, t' σ H R → t σ H R) : PI X tg iter t' := ⟨fun pins s σ H R I q => h.run pins s σ H R I (i _ _ _ q)⟩
theorem PI.either {X : Cx} {tg iter : Expr} {t u : TI} (h : PI X tg iter t) (h' : PI X tg iter u) : PI X tg iter (fun σ H R => t σ H R ∨ u σ H R) := ⟨fun pins s σ H R I q => q.elim (h.run pins s σ H R I) (h'.run pins s σ H R I)⟩
theorem goes_list {K : PySem.W.Frag} {w : Vw} {a : Addr} {ds : List D} {vs : List V} (hs : SqL K w.vis a vs) (hl : RpL K w ds vs) : Goes K (Itl K a) ds w where
  go := fun w' i g wr hi => ⟨vs, vs[i]'(by rw [← hl.length]; exact hi), (vis_sub w').sqL (g.vis.sqL hs), by simp [← hl.length, hi]⟩
  stop := fun w' g wr => ⟨vs, (vis_sub w').sqL (g.vis.sqL hs), by rw [hl.length]; exact Nat.le_refl _⟩
  yld := fun w' i x H' g wr hi y => by
    obtain ⟨rfl, h⟩ := y
    have h2 := h vs ((vis_sub w').sqL (g.vis.sqL hs))
    obtain ⟨v, h3, h4⟩ := hl.get (i := i) (d := ds[i]) (by simp [hi])
    rw [h2] at h3
    cases h3
    exact ⟨ds[i], w', by simp [hi], rfl, rfl, Ext.refl _, wr, g.rp h4⟩
theorem goes_tup {K : PySem.W.Frag} {w : Vw} {a : Addr} {ds : List D} {vs : List V} (hs : SqT K w.vis a vs) (hl : RpL K w ds vs) : Goes K (Itt K a) ds w where
  go := fun w' i g wr hi => ⟨vs, vs[i]'(by rw [← hl.length]; exact hi), (vis_sub w').sqT (g.vis.sqT hs), by simp [← hl.length, hi]⟩
  stop := fun w' g wr => ⟨vs, (vis_sub w').sqT (g.vis.sqT hs), by rw [hl.length]; exact Nat.le_refl _⟩
  yld := fun w' i x H' g wr hi y => by
    obtain ⟨rfl, h⟩ := y
    have h2 := h vs ((vis_sub w').sqT (g.vis.sqT hs))
    obtain ⟨v, h3, h4⟩ := hl.get (i := i) (d := ds[i]) (by simp [hi])
    rw [h2] at h3
    cases h3
    exact ⟨ds[i], w', by simp [hi], rfl, rfl, Ext.refl _, wr, g.rp h4⟩
/-- a list or a tuple that is seen -/
def iSeq (m : Env → Mem → Res D) : Env → Mem → Res (List D) := fun ρ M => (m ρ M).bind fun d M1 => match seqOf d with
  | some l => .ok l M1
  | none => .bad
/-- the iterator of a list or of a tuple, whichever it is -/
theorem pi_seq {l : Expr} {tg : Expr} {tl : TE} (hl : PE X l tl) : PI X tg l (fun σ H R => tl σ H fun x H1 => (∃ a xs, x = .ref a ∧ SqL X.K H1 a xs ∧ R (Itl X.K a) H1) ∨ ∃ a xs, x = .ref a ∧ SqT X.K H1 a xs ∧ R (Itt X.K a) H1) := by
  refine ⟨fun pins s σ H R I h => thn (hl.run pins s σ H _ I h) fun v s1 z => ?_⟩
  obtain ⟨x, H1, I1, r1, q1⟩ := z
  have new : ∀ (ob : Obj), L2.Inv X pins σ H1 { s1 with heap := s1.heap.push ob, toks := s1.toks } := fun ob => I1.kept (t' := s1.toks) fun b o e => Heap.get?_push_of_some _ e
  have ok : ∀ b ∈ [s1.heap.objs.size], FpOk X pins H1 b := fun b hb => by
    obtain rfl := List.mem_singleton.mp hb
    exact I1.fpOk (Nat.le_refl _) (I1.hok.fresh (Nat.le_refl _))
  rcases q1 with ⟨a, xs, rfl, hq, q⟩ | ⟨a, xs, rfl, hq, q⟩
  · obtain rfl : v = Value.ref a := r1
    obtain ⟨its, rv, pl, hz⟩ := I1.list hq
    exact wpAny_pyIter_list pl.isList ⟨_, _, _, _, H1, rfl, new _, turn_list a _, ⟨_, Heap.get?_push_size _ rfl, rfl, rfl⟩, ok, q⟩
  · obtain rfl : v = Value.ref a := r1
    obtain ⟨its, rv, pl, hz⟩ := I1.tuple hq
    exact wpAny_pyIter_tuple (show s1.heap.IsTuple a its.toArray from pl) ⟨_, _, _, _, H1, rfl, new _, turn_tuple a _, ⟨_, Heap.get?_push_size _ rfl, rfl, rfl⟩, ok, q⟩
theorem di_seq {l tg : Expr} {m : Env → Mem → Res D} (hl : PE X l (tE X W m)) : PI X tg l (tI X W (iSeq m)) := PI.imp (pi_seq hl) fun σ H R ⟨w, ρ, hH, wr, sl, q⟩ => by
  subst hH
  refine tR_step wr sl q fun w1 x vx ext1 wr1 rx q1 => ?_
  cases x with
  | tup l' =>
    simp only [Rp, Rep] at rx
    obtain ⟨a, vs, rfl, hs, hl⟩ := rx
    exact .inr ⟨a, vs, rfl, (vis_sub w1).sqT hs, Aft.here q1 wr1 _ (goes_tup hs hl)⟩
  | lst l' =>
    simp only [Rp, Rep] at rx
    obtain ⟨a, vs, rfl, hs, hl⟩ := rx
    exact .inl ⟨a, vs, rfl, SqL.of (vis_sub w1 _ _ hs), Aft.here q1 wr1 _ (goes_list (SqL.of hs) hl)⟩
  | fz l' =>
    simp only [Rp, Rep] at rx
    obtain ⟨a, vs, rfl, hs, hl⟩ := rx
    exact .inl ⟨a, vs, rfl, (vis_sub w1).sqL hs, Aft.here q1 wr1 _ (goes_list hs hl)⟩
  | _ => exact q1.elim
/-- range(j), range(i, j) -/
def small62 (i : Int) : Bool := decide (-(2 ^ 62) ≤ i) && decide (i < 2 ^ 62)
theorem small62_ok {i : Int} (h : small62 i = true) : -(2 ^ 62) ≤ i ∧ i < 2 ^ 62 := by
  unfold small62 at h
  rw [Bool.and_eq_true] at h
  exact ⟨of_decide_eq_true h.1, of_decide_eq_true h.2⟩
def rangeD (lo : Int) (n : Nat) : List D := (List.range n).map fun (k : Nat) => D.int (lo + (k : Int))
def iRange1 (m : Env → Mem → Res (List D)) : Env → Mem → Res (List D) := fun ρ M => (m ρ M).bind fun xs M1 => match xs with
  | [.int j] => if small62 j = true then .ok (rangeD 0 j.toNat) M1 else .bad
  | _ => .bad
def iRange2 (m : Env → Mem → Res (List D)) : Env → Mem → Res (List D) := fun ρ M => (m ρ M).bind fun xs M1 => match xs with
  | [.int i, .int j] => if small62 i = true ∧ small62 j = true then .ok (rangeD i (j - i).toNat) M1 else .bad
  | _ => .bad
theorem goes_range {K : PySem.W.Frag} {w : Vw} {lo : Int} {n : Nat} : Goes K (Itr lo n) (rangeD lo n) w where
  go := fun w' i g wr hi => by
    have hi' : i < n := by simpa [rangeD] using hi
    exact hi'
  stop := fun w' g wr => by
    have e : (rangeD lo n).length = n := by simp [rangeD]
    rw [e]
    exact Nat.le_refl n
  yld := fun w' i x H' g wr hi y => by
    have hi' : i < n := by simpa [rangeD] using hi
    obtain ⟨rfl, rfl⟩ := y
    refine ⟨.int (lo + i), w', ?_, rfl, rfl, Ext.refl _, wr, by simp only [Rp, Rep]⟩
    unfold rangeD
    rw [List.getElem?_map, List.getElem?_range hi']
    rfl
theorem di_range1 {a tg : Expr} {m : Env → Mem → Res (List D)} {p pos : Pos} (hg : Gl X "range") (hm : X.mg "range" = none) (ha : PA X [a] (tA X W m)) (hs : starEach [a] X.env = [(false, eval a X.env)] := by rfl) :
    PI X tg (.Call (.Name "range" p) [a] [] pos) (tI X W (iRange1 m)) := PI.imp (pi_range1 hg hm ha hs) fun σ H R ⟨w, ρ, hH, wr, sl, q⟩ => by
  subst hH
  unfold iRng1
  refine tR_step wr sl q fun w1 xs vs ext1 wr1 rx q1 => ?_
  split at q1
  · rename_i j
    obtain ⟨v, rfl, h1⟩ := repL1 rx
    obtain rfl := rp_int_inv h1
    obtain ⟨c, q1⟩ := aft_if q1
    obtain ⟨c1, c2⟩ := small62_ok c
    exact ⟨j, rfl, c1, c2, Aft.here q1 wr1 _ goes_range⟩
  · exact q1.elim
theorem di_range2 {a b tg : Expr} {m : Env → Mem → Res (List D)} {p pos : Pos} (hg : Gl X "range") (hm : X.mg "range" = none) (ha : PA X [a, b] (tA X W m))
    (hs : starEach [a, b] X.env = [(false, eval a X.env), (false, eval b X.env)] := by rfl) (hs2 : starEach [b] X.env = [(false, eval b X.env)] := by rfl) :
    PI X tg (.Call (.Name "range" p) [a, b] [] pos) (tI X W (iRange2 m)) := PI.imp (pi_range2 hg hm ha hs hs2) fun σ H R ⟨w, ρ, hH, wr, sl, q⟩ => by
  subst hH
  unfold iRng2
  refine tR_step wr sl q fun w1 xs vs ext1 wr1 rx q1 => ?_
  split at q1
  · rename_i i j
    obtain ⟨v, u, rfl, h1, h2⟩ := repL2 rx
    obtain rfl := rp_int_inv h1
    obtain rfl := rp_int_inv h2
    obtain ⟨⟨ci, cj⟩, q1⟩ := aft_if q1
    obtain ⟨c1, c2⟩ := small62_ok ci
    obtain ⟨c3, c4⟩ := small62_ok cj
    exact ⟨i, j, rfl, ⟨c1, c2, c3, c4⟩, Aft.here q1 wr1 _ goes_range⟩
  · exact q1.elim

/-! ### for -/
def forL (p : Pat) (b : SD) : List D → SD
  | [] => fun ρ M => .nx ρ M
  | d :: r => fun ρ M => match p.asg d ρ with
    | none => .bad
    | some ρ1 => match b ρ1 M with
      | .nx ρ' M' => forL p b r ρ' M'
      | .ct ρ' M' => forL p b r ρ' M'
      | .bk ρ' M' => .nx ρ' M'
      | x => x
def sFor (it : Env → Mem → Res (List D)) (p : Pat) (b : SD) : SD := fun ρ M => liftR (it ρ M) ρ fun ds M' => forL p b ds ρ M'
theorem ds_for {tg iter : Expr} {body : List Stmt} {it : Env → Mem → Res (List D)} {p : Pat} {b : SD} {pos : Pos} (hp : PassesOwn (model X.prog X.w) X.A X.env X.xe) (hc : X.calm = true) (hi : PI X tg iter (tI X W it)) (hg : PG X tg (tG X p)) (hb : PSs X body (tS X W b))
    (hs : ∀ x, foldedSetIterable iter X.env x = pure x := by intro _; rfl) : PS X (.For tg iter body [] pos) (tS X W (sFor it p b)) := PS.imp (ps_for hp hc hi hg hb hs) fun Dn σ H ⟨w, ρ, hH, wr, sl, q⟩ => by
  subst hH
  unfold tFor
  refine ⟨w, ρ, rfl, wr, sl, ?_⟩
  cases e0 : it ρ w.M with
  | bad =>
    unfold sFor at q
    rw [e0] at q
    exact q
  | exc x M' =>
    unfold sFor at q
    rw [e0] at q
    exact fun w' C dx v ext hM wr' hm hd r => q w' σ C dx v ext hM wr' (ext.slots sl) hm hd r
  | ok ds M' =>
    unfold sFor at q
    rw [e0] at q
    intro w1 ext hM wr1 J G
    have q1 : AftS X.K X.mg w1 (forL p b ds ρ w1.M) W Dn := by
      rw [hM]
      exact AftS.ext q ext
    refine ⟨fun i m σ H => m = ds.length - i ∧ i ≤ ds.length ∧ ∃ w ρ, w.H = H ∧ Gr w1 w ∧ WR X.K w ∧ Slots X.K w ρ σ ∧ AftS X.K X.mg w (forL p b (ds.drop i) ρ w.M) W Dn, ⟨ds.length, by simp, Nat.zero_le _, w1, ρ, rfl, Gr.refl w1, wr1, ext.slots sl, by simpa using q1⟩, ?_⟩
    rintro i m σ2 H2 ⟨rfl, hi, w2, ρ2, rfl, g2, wr2, sl2, q2⟩
    by_cases hlt : i < ds.length
    · refine .inr ⟨G.go w2 i g2 wr2 hlt, fun σ' H' => ∃ m', m' = ds.length - (i + 1) ∧ i + 1 ≤ ds.length ∧ ∃ w ρ, w.H = H' ∧ Gr w1 w ∧ WR X.K w ∧ Slots X.K w ρ σ' ∧ AftS X.K X.mg w (forL p b (ds.drop (i + 1)) ρ w.M) W Dn, fun σ' H' ⟨m', e, z⟩ => ⟨m', by omega, e, z⟩, fun x H' y => ?_⟩
      obtain ⟨d, w3, hd, hH3, hM3, ext3, wr3, r3⟩ := G.yld w2 i x H' g2 wr2 hlt y
      have ed : ds.drop i = d :: ds.drop (i + 1) := by
        obtain ⟨h1, h2⟩ := List.getElem?_eq_some_iff.mp hd
        rw [← h2]
        exact (List.drop_eq_getElem_cons h1)
      rw [ed, ← hM3] at q2
      have q3 := AftS.ext q2 ext3
      simp only [forL] at q3
      subst hH3
      cases ea : p.asg d ρ2 with
      | none =>
        rw [ea] at q3
        exact q3.elim
      | some ρ3 =>
        rw [ea] at q3
        refine ⟨w3, ρ2, d, ρ3, rfl, wr3, ext3.slots sl2, r3, ea, fun σ3 sl3 _ => ⟨w3, ρ3, rfl, wr3, sl3, ?_⟩⟩
        dsimp only at q3
        have done : ∀ {ρ' : Env} {M' : Mem} {w' : Vw} {σ' : L2.St}, AftS X.K X.mg w3 (forL p b (ds.drop (i + 1)) ρ' M') W Dn → Ext w3 w' → w'.M = M' → WR X.K w' → Slots X.K w' ρ' σ' →
            ∃ m', m' = ds.length - (i + 1) ∧ i + 1 ≤ ds.length ∧ ∃ w ρ, w.H = w'.H ∧ Gr w1 w ∧ WR X.K w ∧ Slots X.K w ρ σ' ∧ AftS X.K X.mg w (forL p b (ds.drop (i + 1)) ρ w.M) W Dn := fun {ρ' M' w' σ'} qq ex hM wr' sl' =>
          ⟨_, rfl, hlt, w', ρ', rfl, (g2.trans ext3.gr).trans ex.gr, wr', sl', by rw [hM]; exact AftS.ext qq ex⟩
        cases eb : b ρ3 w3.M with
        | nx ρ' M' =>
          rw [eb] at q3
          exact fun w' σ' ex hM wr' sl' => done q3 ex hM wr' sl'
        | ct ρ' M' =>
          rw [eb] at q3
          exact fun w' σ' ex hM wr' sl' => done q3 ex hM wr' sl'
        | bk ρ' M' =>
          rw [eb] at q3
          exact q3
        | rt d M' =>
          rw [eb] at q3
          exact q3
        | exc x ρ' M' =>
          rw [eb] at q3
          exact q3
        | bad =>
          rw [eb] at q3
          exact q3
    · have ei : i = ds.length := by omega
      subst ei
      refine .inl ⟨G.stop w2 g2 wr2, ?_⟩
      rw [List.drop_length] at q2
      exact q2 w2 σ2 (Ext.refl w2) rfl wr2 sl2
end DL
namespace DL
open PySem PySem.Spec L2
variable [TabsOf]
variable {X : Cx} {W : WX}

/-! ### a hidden object -/
section
variable {K : PySem.W.Frag} {w : Vw}
theorem hid_new (wr : WR K w) {p : Addr} (hp : w.H p = none) (o : HO) (ho : ∀ ps, o ≠ .tbl ps) (hoe : ∀ φ, o ≠ .ext φ) : Gr w ⟨w.al, w.M, p :: w.S, upd w.H p o, w.T⟩ ∧ WR K ⟨w.al, w.M, p :: w.S, upd w.H p o, w.T⟩ := by
  have hn : ∀ a, w.H a ≠ none → a ≠ p := fun a h e => by rw [e] at h; exact h hp
  have hH : ∀ a, a ≠ p → upd w.H p o a = w.H a := fun a h => upd_ne h
  have hsub : Sub w.vis (⟨w.al, w.M, p :: w.S, upd w.H p o, w.T⟩ : Vw).vis := fun a u h => by
    obtain ⟨h1, h2⟩ := vis_some.mp h
    have hap := hn a (by rw [h1]; exact fun z => nomatch z)
    refine vis_some.mpr ⟨by show upd w.H p o a = _; rw [hH a hap]; exact h1, ?_⟩
    rintro (z | z | ⟨ps, z⟩)
    · rcases List.mem_cons.mp z with z | z
      · exact hap z
      · exact h2 (.inl z)
    · exact h2 (.inr (.inl z))
    · have z' : upd w.H p o a = some (.tbl ps) := z
      rw [hH a hap] at z'
      exact h2 (.inr (.inr ⟨ps, z'⟩))
  have hS : ∀ a ∈ p :: w.S, a = p ∨ upd w.H p o a = w.H a := fun a ha => (List.mem_cons.mp ha).imp id fun z => hH a (hn a (wr.hs a z))
  refine ⟨⟨List.prefix_refl _, hsub⟩, ⟨wr.len, wr.nd, fun a ha => ?_, fun a ha ps z => ?_, fun a ha ps z => ?_, fun n a u e1 e2 z => ?_, fun n a u e1 e2 => ?_, fun a ha => ?_, tabs_new wr.tabs hp, alt_upd wr.alt ho, fun b hb z => (List.mem_cons.mp z).elim (fun q => wr.al0 p (q ▸ hb) hp) (wr.dja b hb)⟩⟩
  rotate_left 1
  · have z' : upd w.H p o a = some (.tbl ps) := z
    by_cases e : a = p
    · rw [e, upd_same] at z'
      exact ho ps (Option.some.inj z')
    · rw [hH a e] at z'
      exact wr.hst a ((List.mem_cons.mp ha).resolve_left e) ps z'
  · have z' : upd w.H p o a = some (.ext ps) := z
    by_cases e : a = p
    · rw [e, upd_same] at z'
      exact hoe ps (Option.some.inj z')
    · rw [hH a e] at z'
      exact wr.hse a ((List.mem_cons.mp ha).resolve_left e) ps z'
  rotate_right 1
  · show upd w.H p o a ≠ none
    rcases List.mem_cons.mp ha with z | z
    · rw [z, upd_same]
      exact fun z => nomatch z
    · rw [hH a (hn a (wr.hs a z))]
      exact wr.hs a z
  · rcases List.mem_cons.mp z with z | z
    · exact hn a (wr.al0 a (List.mem_of_getElem? e1)) z
    · exact wr.dj n a u e1 e2 z
  · show RepO K w.al _ (upd w.H p o a) u
    rw [hH a (hn a (wr.al0 a (List.mem_of_getElem? e1)))]
    exact (wr.obj n a u e1 e2).mono (List.prefix_refl _) hsub
  · show upd w.H p o a ≠ none
    rw [hH a (hn a (wr.al0 a ha))]
    exact wr.al0 a ha
theorem hid_chg (wr : WR K w) {p : Addr} (hp : p ∈ w.S) (o : HO) (ho : ∀ ps, o ≠ .tbl ps) (hoe : ∀ φ, o ≠ .ext φ) : Gr w ⟨w.al, w.M, w.S, upd w.H p o, w.T⟩ ∧ WR K ⟨w.al, w.M, w.S, upd w.H p o, w.T⟩ := by
  have hH : ∀ a, a ≠ p → upd w.H p o a = w.H a := fun a h => upd_ne h
  have hsub : Sub w.vis (⟨w.al, w.M, w.S, upd w.H p o, w.T⟩ : Vw).vis := fun a u h => by
    obtain ⟨h1, h2⟩ := vis_some.mp h
    have hap : a ≠ p := fun e => h2 (.inl (e ▸ hp))
    refine vis_some.mpr ⟨by show upd w.H p o a = _; rw [hH a hap]; exact h1, ?_⟩
    rintro (z | z | ⟨ps, z⟩)
    · exact h2 (.inl z)
    · exact h2 (.inr (.inl z))
    · have z' : upd w.H p o a = some (.tbl ps) := z
      rw [hH a hap] at z'
      exact h2 (.inr (.inr ⟨ps, z'⟩))
  refine ⟨⟨List.prefix_refl _, hsub⟩, ⟨wr.len, wr.nd, fun a ha => ?_, fun a ha ps z => ?_, fun a ha ps z => ?_, wr.dj, fun n a u e1 e2 => ?_, fun a ha => ?_, tabs_upd wr.tabs (wr.hst p hp) (wr.hse p hp), alt_upd wr.alt ho, wr.dja⟩⟩
  rotate_left 1
  · have z' : upd w.H p o a = some (.tbl ps) := z
    by_cases e : a = p
    · rw [e, upd_same] at z'
      exact ho ps (Option.some.inj z')
    · rw [hH a e] at z'
      exact wr.hst a ha ps z'
  · have z' : upd w.H p o a = some (.ext ps) := z
    by_cases e : a = p
    · rw [e, upd_same] at z'
      exact hoe ps (Option.some.inj z')
    · rw [hH a e] at z'
      exact wr.hse a ha ps z'
  rotate_right 1
  · show upd w.H p o a ≠ none
    by_cases e : a = p
    · rw [e, upd_same]
      exact fun z => nomatch z
    · rw [hH a e]
      exact wr.hs a ha
  · show RepO K w.al _ (upd w.H p o a) u
    rw [hH a fun e => wr.dj n a u e1 e2 (e ▸ hp)]
    exact (wr.obj n a u e1 e2).mono (List.prefix_refl _) hsub
  · show upd w.H p o a ≠ none
    by_cases e : a = p
    · rw [e, upd_same]
      exact fun z => nomatch z
    · rw [hH a e]
      exact wr.al0 a ha
/-- it is seen again -/
theorem unhid (wr : WR K w) {p : Addr} {S : List Addr} (hS : w.S = p :: S) (hpS : p ∉ S) {o : HO} (hp : w.H p = some o) (ho : ∀ ps, o ≠ .tbl ps) : Gr w ⟨w.al, w.M, S, w.H, w.T⟩ ∧ WR K ⟨w.al, w.M, S, w.H, w.T⟩ ∧ (⟨w.al, w.M, S, w.H, w.T⟩ : Vw).vis p = some o := by
  have hsub : Sub w.vis (⟨w.al, w.M, S, w.H, w.T⟩ : Vw).vis := fun a u h => by
    obtain ⟨h1, h2⟩ := vis_some.mp h
    refine vis_some.mpr ⟨h1, ?_⟩
    rintro (z | z)
    · exact h2 (.inl (by rw [hS]; exact List.mem_cons_of_mem _ z))
    · exact h2 (.inr z)
  refine ⟨⟨List.prefix_refl _, hsub⟩, ⟨wr.len, wr.nd, fun a ha => wr.hs a (by rw [hS]; exact List.mem_cons_of_mem _ ha), fun a ha => wr.hst a (by rw [hS]; exact List.mem_cons_of_mem _ ha), fun a ha => wr.hse a (by rw [hS]; exact List.mem_cons_of_mem _ ha), fun n a u e1 e2 z => wr.dj n a u e1 e2 (by rw [hS]; exact List.mem_cons_of_mem _ z), fun n a u e1 e2 => (wr.obj n a u e1 e2).mono (List.prefix_refl _) hsub, wr.al0, wr.tabs, wr.alt, fun b hb z => wr.dja b hb (by rw [hS]; exact List.mem_cons_of_mem _ z)⟩, vis_some.mpr ⟨hp, ?_⟩⟩
  rintro (z | ⟨n, u, e1, e2⟩ | ⟨ps, z⟩)
  · exact hpS z
  · exact wr.dj n p u e1 e2 (by rw [hS]; exact List.mem_cons_self)
  · have z' : w.H p = some (.tbl ps) := z
    rw [hp] at z'
    exact ho ps (Option.some.inj z')
end

/-! ### comprehensions -/
def wipeD (ρ : Env) : List Nat → Env
  | [] => ρ
  | v :: vs => (wipeD ρ vs).set v none
theorem slots_wipe {K : PySem.W.Frag} {w : Vw} {ρ : Env} {σ : L2.St} (s : Slots K w ρ σ) : ∀ vs : List Nat, Slots K w (wipeD ρ vs) (wipe σ vs)
  | [] => s
  | v :: vs => (slots_wipe s vs).none v
theorem wipe_get (σ : L2.St) (i : Nat) : ∀ vs : List Nat, (wipe σ vs)[i]? = if i ∈ vs ∧ i < σ.length then some none else σ[i]?
  | [] => by simp [wipe]
  | v :: vs => by
    unfold wipe
    by_cases hv : v = i
    · subst hv
      by_cases hl : v < σ.length
      · rw [List.getElem?_set_self (by rw [wipe_length]; exact hl), if_pos ⟨List.mem_cons_self, hl⟩]
      · rw [List.getElem?_eq_none (by rw [List.length_set, wipe_length]; omega), if_neg (fun z => hl z.2), List.getElem?_eq_none (by omega)]
    · rw [List.getElem?_set_ne hv, wipe_get σ i vs]
      by_cases hm : i ∈ vs ∧ i < σ.length
      · rw [if_pos hm, if_pos ⟨List.mem_cons_of_mem _ hm.1, hm.2⟩]
      · rw [if_neg hm, if_neg fun z => hm ⟨(List.mem_cons.mp z.1).resolve_left fun e => hv e.symm, z.2⟩]
theorem wipe_only {l vs : List Nat} {σ σ2 : L2.St} (h : OnlyAt l (wipe σ vs) σ2) (hl : ∀ i ∈ l, i ∈ vs) : wipe σ2 vs = wipe σ vs := by
  have e1 : σ2.length = σ.length := by rw [h.1, wipe_length]
  refine List.ext_getElem? fun i => ?_
  rw [wipe_get, wipe_get, e1]
  by_cases hi : i ∈ vs ∧ i < σ.length
  · rw [if_pos hi, if_pos hi]
  · rw [if_neg hi, if_neg hi]
    by_cases hv : i ∈ vs
    · have hlen : ¬ i < σ.length := fun z => hi ⟨hv, z⟩
      rw [List.getElem?_eq_none (by omega), List.getElem?_eq_none (by omega)]
    · rw [h.2 i fun z => hv (hl i z), wipe_get, if_neg fun z => hv z.1]
abbrev WF : WX := fun _ _ _ _ => False
def lcL (p : Pat) (c : Env → Mem → Res Bool) (e : Env → Mem → Res D) (ρ0 : Env) : List D → Mem → Option (List D × Mem)
  | [], M => some ([], M)
  | d :: r, M => match p.asg d ρ0 with
    | none => none
    | some ρ1 => match c ρ1 M with
      | .ok b M1 => if b = true then (match e ρ1 M1 with
        | .ok x M2 => (lcL p c e ρ0 r M2).map fun z => (x :: z.1, z.2)
        | _ => none) else lcL p c e ρ0 r M1
      | _ => none
def lcR (o : Option (List D × Mem)) : Res D := match o with
  | some (xs, M) => if xs.length ≤ 1000000 then .ok (.lst xs) M else .bad
  | none => .bad
def eLc (it : Env → Mem → Res (List D)) (p : Pat) (vs : List Nat) (c : Env → Mem → Res Bool) (e : Env → Mem → Res D) : Env → Mem → Res D := fun ρ M => (it ρ M).bind fun ds M1 => lcR (lcL p c e (wipeD ρ vs) ds M1)
def cYes : Env → Mem → Res Bool := fun _ M => .ok true M
theorem dts_nil : PTs X [] (tT X WF cYes) := ⟨fun pins s σ H Q I ⟨w, ρ, hH, wr, sl, q⟩ => pts_nil.run pins s σ H Q I (by subst hH; exact Aft.here q wr _ rfl)⟩
theorem dts_one {c : Expr} {m : Env → Mem → Res Bool} (h : PT X c (tT X WF m)) : PTs X [c] (tT X WF m) := pts_one h
theorem t_lc {σ : L2.St} {H : Hp} {Q : VK} {it : Env → Mem → Res (List D)} {p : Pat} {vs : List Nat} {c : Env → Mem → Res Bool} {e : Env → Mem → Res D} {Xb : Cx} (hK : Xb.K = X.K) (hm : Xb.mg = X.mg) (hv : ∀ i ∈ p.slots, i ∈ vs)
    (h : tE X W (eLc it p vs c e) σ H Q) : tLc (tI X W it) (tG Xb p) (tT Xb WF c) (tE Xb WF e) vs σ H Q := by
  obtain ⟨w0, ρ, hH, wr0, sl0, q⟩ := h
  subst hH
  unfold tLc
  refine ⟨w0, ρ, rfl, wr0, sl0, ?_⟩
  unfold eLc at q
  refine Aft.mono (aft_bind q) fun w1 ds ext1 wr1 q1 J G A hA => ?_
  cases eL : lcL p c e (wipeD ρ vs) ds w1.M with
  | none =>
    rw [eL] at q1
    exact q1.elim
  | some z =>
    obtain ⟨xs, M2⟩ := z
    rw [eL] at q1
    have q1' : Aft X.K X.mg w1 (if xs.length ≤ 1000000 then .ok (.lst xs) M2 else .bad) (fun w' d => ∀ v, Rp X.K w' d v → Q v w'.H) (fun cls dx H' => W cls dx σ H') := q1
    obtain ⟨hlen, q2⟩ := aft_if q1'
    have sl1 := slots_wipe (ext1.slots sl0) vs
    have hAS : A ∉ w1.S := fun z => wr1.hs A z hA
    -- the loop's word
    let L : Vw → List D → Prop := fun w acc => w.S = A :: w1.S ∧ Gr w1 w ∧ (∀ a ∈ w1.S, w.H a = w1.H a) ∧ w.T = w1.T ∧ WR X.K w ∧ ∃ av, w.H A = some (.lst av) ∧ RpL X.K w acc av
    have L0 : L ⟨w1.al, w1.M, A :: w1.S, upd w1.H A (.lst []), w1.T⟩ [] := by
      obtain ⟨g, wr⟩ := hid_new wr1 hA (.lst []) (no_tbl trivial) (fun φ z => by cases z)
      have ne : ∀ {a : Addr} {o : HO}, w1.H a = some o → upd w1.H A (.lst []) a = w1.H a := fun {a o} h => upd_ne fun z => by
        rw [z, hA] at h
        cases h
      exact ⟨rfl, g, fun a ha => upd_ne fun z => hAS (z ▸ ha), rfl, wr, [], upd_same, repL_nil⟩
    have Lx : ∀ {w w' : Vw} {acc : List D}, L w acc → Ext w w' → WR X.K w' → L w' acc := fun {w w' acc} l ex wr => by
      obtain ⟨h1, h2, h3, h4, h5, av, h6, h7⟩ := l
      have hs : ∀ a, a ∈ A :: w1.S → w'.H a = w.H a := fun a ha => ex.hid a (by rw [h1]; exact ha)
      refine ⟨ex.S.trans h1, h2.trans ex.gr, fun a ha => (hs a (List.mem_cons_of_mem _ ha)).trans (h3 a ha), ex.T.trans h4, wr, av, (hs A List.mem_cons_self).trans h6, ex.rpL h7⟩
    refine ⟨fun i m H => m = ds.length - i ∧ i ≤ ds.length ∧ ∃ w acc rest, w.H = H ∧ L w acc ∧ acc ++ rest = xs ∧ lcL p c e (wipeD ρ vs) (ds.drop i) w.M = some (rest, M2), ⟨ds.length, by simp, Nat.zero_le _, _, [], xs, rfl, L0, rfl, by simpa using eL⟩, ?_⟩
    rintro i m H ⟨rfl, hi, w, acc, rest, rfl, l, ea, er⟩
    have l0 := l
    obtain ⟨h1, h2, h3, h4, h5, av, h6, h7⟩ := l
    by_cases hlt : i < ds.length
    · refine .inr ⟨G.go w i h2 h5 hlt, fun H' => ∃ w acc rest, w.H = H' ∧ L w acc ∧ acc ++ rest = xs ∧ lcL p c e (wipeD ρ vs) (ds.drop (i + 1)) w.M = some (rest, M2), fun H' z => ⟨ds.length - (i + 1), by omega, rfl, hlt, z⟩, fun x H' y => ?_⟩
      obtain ⟨d, w2, hd, hH2, hM2, ext2, wr2, r2⟩ := G.yld w i x H' h2 h5 hlt y
      subst hH2
      have ed : ds.drop i = d :: ds.drop (i + 1) := by
        obtain ⟨g1, g2⟩ := List.getElem?_eq_some_iff.mp hd
        rw [← g2]
        exact List.drop_eq_getElem_cons g1
      rw [ed, ← hM2] at er
      have l2 := Lx l0 ext2 wr2
      simp only [lcL] at er
      cases ep : p.asg d (wipeD ρ vs) with
      | none =>
        rw [ep] at er
        cases er
      | some ρ1 =>
        rw [ep] at er
        dsimp only at er
        refine ⟨w2, wipeD ρ vs, d, ρ1, rfl, by rw [hK]; exact wr2, by rw [hK]; exact (h2.trans ext2.gr).slots sl1, by rw [hK]; exact r2, ep, fun σ2 sl2 on2 => ⟨wipe_only on2 hv, ?_⟩⟩
        refine ⟨w2, ρ1, rfl, by rw [hK]; exact wr2, sl2, ?_⟩
        cases ec : c ρ1 w2.M with
        | bad =>
          rw [ec] at er
          cases er
        | exc x M' =>
          rw [ec] at er
          cases er
        | ok b M1 =>
          rw [ec] at er
          dsimp only at er
          intro w3 ext3 hM3 wr3 v rv
          subst rv
          rw [hK] at wr3
          have l3 := Lx l2 ext3 wr3
          cases v with
          | false =>
            rw [if_neg (by decide)] at er ⊢
            exact ⟨w3, acc, rest, rfl, l3, ea, by rw [hM3]; exact er⟩
          | true =>
            rw [if_pos rfl] at er ⊢
            refine ⟨w3, ρ1, rfl, by rw [hK]; exact wr3, ext3.slots sl2, ?_⟩
            rw [← hM3] at er
            cases ee : e ρ1 w3.M with
            | bad =>
              rw [ee] at er
              cases er
            | exc x M' =>
              rw [ee] at er
              cases er
            | ok y M4 =>
              rw [ee] at er
              dsimp only at er
              obtain ⟨⟨rs, M5⟩, er1, er2⟩ := Option.map_eq_some_iff.mp er
              simp only [Prod.mk.injEq] at er2
              obtain ⟨er2, er3⟩ := er2
              subst er3
              intro w4 ext4 hM4 wr4 vy ry
              rw [hK] at wr4 ry
              obtain ⟨g1, g2, g3, g4, g5, av4, g6, g7⟩ := Lx l3 ext4 wr4
              have hlen4 : av4.length < sizeLine := by
                rw [← g7.length]
                have e9 := congrArg List.length ea
                rw [List.length_append, ← er2, List.length_cons] at e9
                have := line_of (n := 1000000) (Nat.le_refl _)
                omega
              refine ⟨av4, g6, hlen4, ?_⟩
              obtain ⟨gr, wr5⟩ := hid_chg wr4 (p := A) (by rw [g1]; exact List.mem_cons_self) (.lst (av4 ++ [vy])) (no_tbl trivial) (fun φ z => by cases z)
              refine ⟨⟨w4.al, w4.M, w4.S, upd w4.H A (.lst (av4 ++ [vy])), w4.T⟩, acc ++ [y], rs, rfl, ⟨g1, g2.trans gr, fun a ha => ?_, g4, wr5, av4 ++ [vy], upd_same, gr.rpL (g7.append (repL_cons ry repL_nil))⟩, ?_, by show lcL p c e (wipeD ρ vs) (ds.drop (i + 1)) w4.M = _; rw [hM4]; exact er1⟩
              · show upd w4.H A _ a = _
                rw [upd_ne (show a ≠ A from fun z => hAS (z ▸ ha))]
                exact g3 a ha
              · rw [List.append_assoc, ← ea, ← er2]
                rfl
    · have ei : i = ds.length := by omega
      subst ei
      rw [List.drop_length] at er
      simp only [lcL, Option.some.injEq, Prod.mk.injEq] at er
      obtain ⟨er1, er2⟩ := er
      subst er1
      rw [List.append_nil] at ea
      subst ea
      refine .inl ⟨G.stop w h2 h5, ?_⟩
      obtain ⟨gr, wr6, hv6⟩ := unhid h5 h1 hAS h6 (no_tbl trivial)
      have ext : Ext w1 ⟨w.al, w.M, w1.S, w.H, w.T⟩ := ⟨(h2.trans gr).al, (h2.trans gr).vis, rfl, h3, h4⟩
      refine q2 _ ext er2 wr6 _ ?_
      simp only [Rp, Rep]
      exact ⟨A, av, rfl, hv6, gr.rpL h7⟩
theorem d_lc {elt tg iter : Expr} {ifs : List Expr} {scope : Scope} {own : List (Str × Nat)} {pos : Pos} {it : Env → Mem → Res (List D)} {p : Pat} {c : Env → Mem → Res Bool} {e : Env → Mem → Res D} (hc : X.calm = true) (hN : X.N.Nodup) (hi : PI X tg iter (tI X W it)) (ok : BlkOk X.N X.env.scope scope own)
    (hg : ∀ Xb : Cx, (∃ s H C cl fp, Xb = X.blk s H scope (compEnvC scope cl C X.env) fp) → PG Xb tg (tG Xb p)) (ht : ∀ Xb : Cx, (∃ s H C cl fp, Xb = X.blk s H scope (compEnvC scope cl C X.env) fp) → PTs Xb ifs (tT Xb WF c))
    (he : ∀ Xb : Cx, (∃ s H C cl fp, Xb = X.blk s H scope (compEnvC scope cl C X.env) fp) → PE Xb elt (tE Xb WF e)) (hv : ∀ i ∈ p.slots, i ∈ own.map (·.2) := by decide) (hs : ∀ x, foldedSetIterable iter X.env x = pure x := by intro _; rfl) :
    PE X (.ListComp elt [⟨tg, iter, ifs, 0⟩] scope pos) (tE X W (eLc it p (own.map (·.2)) c e)) := by
  -- the readings of the block hang on K and mg alone
  have same : ∀ {s : Shared} {H : Hp} {C : Addr} {cl : List (Str × Addr)} {fp : List Addr} {β γ : Type} {rel : Vw → β → γ → Prop} {m : Env → Mem → Res β}, tR (X.blk s H scope (compEnvC scope cl C X.env) fp) WF rel m = tR X WF rel m := by
    intros
    rfl
  have sameG : ∀ {s : Shared} {H : Hp} {C : Addr} {cl : List (Str × Addr)} {fp : List Addr}, tG (X.blk s H scope (compEnvC scope cl C X.env) fp) p = tG X p := by
    intros
    rfl
  refine PE.imp (pe_lc (own := own) (g := tG X p) (tt := tT X WF c) (te := tE X WF e) hc hN hi ok (fun s H C cl fp => hg _ ⟨s, H, C, cl, fp, rfl⟩) (fun s H C cl fp => ht _ ⟨s, H, C, cl, fp, rfl⟩) (fun s H C cl fp => he _ ⟨s, H, C, cl, fp, rfl⟩) hs) fun σ H Q h => t_lc (Xb := X) rfl rfl hv h
theorem ds_setLc {i : Nat} {y : Str} {py : Pos} {elt tg iter : Expr} {ifs : List Expr} {scope : Scope} {own : List (Str × Nat)} {pos spos : Pos} {it : Env → Mem → Res (List D)} {p : Pat} {c : Env → Mem → Res Bool} {e : Env → Mem → Res D}
    (hc : X.calm = true) (hN : X.N.Nodup) (hy : X.N[i]? = some y) (hyl : X.env.scope.names.lookup y = some .local) (hsw : swapsWith (.ListComp elt [⟨tg, iter, ifs, 0⟩] scope pos) (some (.Name y py)) spos.line X.env = pure true)
    (hi : PI X tg iter (tI X W it)) (ok : BlkOk X.N X.env.scope scope own)
    (hg : ∀ Xb : Cx, (∃ s H C cl fp, Xb = X.blk s H scope (compEnvC scope cl C X.env) fp) → PG Xb tg (tG Xb p)) (ht : ∀ Xb : Cx, (∃ s H C cl fp, Xb = X.blk s H scope (compEnvC scope cl C X.env) fp) → PTs Xb ifs (tT Xb WF c))
    (he : ∀ Xb : Cx, (∃ s H C cl fp, Xb = X.blk s H scope (compEnvC scope cl C X.env) fp) → PE Xb elt (tE Xb WF e)) (hv : ∀ i ∈ p.slots, i ∈ own.map (·.2) := by decide) (hs : ∀ x, foldedSetIterable iter X.env x = pure x := by intro _; rfl) :
    PS X (.Assign [.Name y py] (.ListComp elt [⟨tg, iter, ifs, 0⟩] scope pos) spos) (tS X W (sAsg (.nm i) (eLc it p (own.map (·.2)) c e))) :=
  PS.imp (ps_setLc (own := own) (g := tG X p) (tt := tT X WF c) (te := tE X WF e) hc hN hy hyl hsw hi ok (fun s H C cl fp => hg _ ⟨s, H, C, cl, fp, rfl⟩) (fun s H C cl fp => ht _ ⟨s, H, C, cl, fp, rfl⟩) (fun s H C cl fp => he _ ⟨s, H, C, cl, fp, rfl⟩) hs) fun Dn σ H h => by
    have h2 := t_nm h
    unfold tAsg at h2 ⊢
    exact t_lc (Xb := X) rfl rfl hv h2

/-! ### methods of lists; bit_length -/
abbrev GM := D → List D → Mem → Res D
/-- the object's type is told: a list that is owned, an int -/
def tyM (T : String) (x : D) (M : Mem) : Bool := match x with
  | .own n => match M[n]? with
    | some (some (.lst _)) => T == "list"
    | some (some (.dct _)) => T == "dict"
    | _ => false
  | .lst _ => T == "list"
  | .str _ => T == "str"
  | _ => false
theorem tyM_ok {w : Vw} {T : String} {x : D} {v : V} (wr : WR X.K w) (r : Rp X.K w x v) (h : tyM T x w.M = true) : tyV X.K T v w.H := by
  cases x with
  | own n =>
    simp only [Rp, Rep] at r
    obtain ⟨a, rfl, hn⟩ := r
    unfold tyM at h
    cases em : w.M[n]? with
    | none =>
      simp only [em] at h
      cases h
    | some o =>
      cases o with
      | none =>
        simp only [em] at h
        cases h
      | some m =>
        have ob := wr.obj n a m hn em
        cases m with
        | lst l =>
          simp only [em] at h
          obtain ⟨xs, e1, e2⟩ := ob
          exact .inl ⟨eq_of_beq h, xs, SqL.of e1⟩
        | dct l =>
          simp only [em] at h
          obtain ⟨xs, e1, e2⟩ := ob
          exact .inr (.inr (.inl ⟨eq_of_beq h, .inl ⟨xs, e1⟩⟩))
  | lst l =>
    simp only [Rp, Rep] at r
    obtain ⟨a, xs, rfl, hs, hl⟩ := r
    exact .inl ⟨eq_of_beq h, xs, SqL.of (vis_sub w _ _ hs)⟩
  | str z =>
    obtain rfl := rp_str_inv r
    exact eq_of_beq h
  | _ => cases h
def eM0 (T : String) (g : GM) (mo : Env → Mem → Res D) : Env → Mem → Res D := fun ρ M => (mo ρ M).bind fun x M1 => if tyM T x M1 = true then g x [] M1 else .bad
def eM (T : String) (g : GM) (mo : Env → Mem → Res D) (m : Env → Mem → Res (List D)) : Env → Mem → Res D := fun ρ M => (mo ρ M).bind fun x M1 => if tyM T x M1 = true then (m ρ M1).bind fun xs M2 => g x xs M2 else .bad
def MtD (X : Cx) (id : String) (g : GM) : Prop := ∃ r, MtR X id r ∧ ∀ (w : Vw) (x : D) (xs : List D) (vx : V) (vs : List V) (Q : VK) (E : XK), WR X.K w → Rp X.K w x vx → RpL X.K w xs vs →
  Aft X.K X.mg w (g x xs w.M) (fun w' d => ∀ v, Rp X.K w' d v → Q v w'.H) E → r vx vs w.H Q
section
variable {o e : Expr} {es : List Expr} {mo : Env → Mem → Res D} {m : Env → Mem → Res (List D)} {name : Str} {apos cpos : Pos} {T id : String} {g : GM}
theorem d_meth0 (pa : PlainAttrs T) (slot : Slot T name id) (hty : typeOf (.builtin id) = pure (.type "method_descriptor")) (hm : MtD X id g) (ho : PE X o (tE X W mo))
    (hbase : attributeBase o name X.env (eval o X.env) = eval o X.env := by rfl) (hline : (apos.endLine == cpos.line) = true := by rfl) : PE X (.Call (.Attribute o name apos) [] [] cpos) (tE X W (eM0 T g mo)) := by
  obtain ⟨r, h1, h2⟩ := hm
  refine PE.imp (pe_bm0 pa slot hty h1 ho hbase hline) fun σ H Q ⟨w, ρ, hH, wr, sl, q⟩ => ?_
  subst hH
  unfold tBM0
  refine tR_step wr sl q fun w1 x vx ext1 wr1 rx q1 => ?_
  obtain ⟨c, q1⟩ := aft_if q1
  exact ⟨tyM_ok wr1 rx c, h2 w1 x [] vx [] Q _ wr1 rx repL_nil q1⟩
theorem d_meth (pa : PlainAttrs T) (slot : Slot T name id) (hty : typeOf (.builtin id) = pure (.type "method_descriptor")) (hm : MtD X id g) (ho : PE X o (tE X W mo)) (ha : PA X (e :: es) (tA X W m))
    (hbase : attributeBase o name X.env (eval o X.env) = eval o X.env := by rfl)
    (hfew : ((backTo cpos (starEach (e :: es) X.env)).all (fun x => !x.1) && (backToKw cpos (keywordEach [] X.env)).all (fun x => x.1.isSome) && decide ((e :: es).length + ([] : List Keyword).length + (if ([] : List Keyword).isEmpty then 0 else 1) < 30)) = true := by rfl)
    (hline : (apos.endLine == cpos.line) = true := by rfl) (hs : starEach (e :: es) X.env = (false, eval e X.env) :: starEach es X.env := by rfl) (hplain : (backTo cpos (starEach es X.env)).any (·.1) = false := by rfl) :
    PE X (.Call (.Attribute o name apos) (e :: es) [] cpos) (tE X W (eM T g mo m)) := by
  obtain ⟨r, h1, h2⟩ := hm
  refine PE.imp (pe_bm pa slot hty h1 ho ha hbase hfew hline hs hplain) fun σ H Q ⟨w, ρ, hH, wr, sl, q⟩ => ?_
  subst hH
  unfold tBM
  refine tR_step wr sl q fun w1 x vx ext1 wr1 rx q1 => ?_
  obtain ⟨c, q1⟩ := aft_if q1
  refine ⟨tyM_ok wr1 rx c, ?_⟩
  exact tR_step wr1 (ext1.slots sl) q1 fun w2 xs vs ext2 wr2 rxs q2 => h2 w2 x xs vx vs Q _ wr2 (ext2.rp rx) rxs q2
end
/-- an owned list is changed: what comes of it -/
def setM (M : Mem) (n : Nat) (m : MO) : Mem := M.set n (some m)
theorem fin_chg {w : Vw} {n : Nat} {a : Addr} {m0 m : MO} {o : HO} {d : D} {v : V} {Q : VK} {E : XK} (wr : WR X.K w) (ea : w.al[n]? = some a) (em : w.M[n]? = some (some m0)) (ho : ∀ ps, o ≠ .tbl ps) (hm : RepO X.K w.al w.vis (some o) m) (r : Rp X.K w d v)
    (q : Aft X.K X.mg w (.ok d (setM w.M n m)) (fun w' d => ∀ v, Rp X.K w' d v → Q v w'.H) E) : Q v (upd w.H a o) := by
  obtain ⟨ext, wr'⟩ := chg wr ea em o ho m hm
  exact q _ ext rfl wr' _ (ext.rp r)
def appendD : GM := fun x xs M => match x, xs with
  | .own n, [d] => match M[n]? with
    | some (some (.lst l)) => if l.length < 1000000 then .ok .non (setM M n (.lst (l ++ [d]))) else .bad
    | _ => .bad
  | _, _ => .bad
theorem m_append : MtD X "list.append" appendD := ⟨_, mt_append, fun w x xs vx vs Q E wr rx rxs q => by
  unfold appendD at q
  split at q
  · rename_i n d
    have rn := rx
    simp only [Rp, Rep] at rx
    obtain ⟨a, rfl, hn⟩ := rx
    obtain ⟨v, rfl, rv⟩ := repL1 rxs
    split at q
    · rename_i l em
      obtain ⟨us, e1, e2⟩ := wr.obj n a _ hn em
      obtain ⟨c, q⟩ := aft_if q
      refine ⟨a, us, v, rfl, rfl, e1, ?_, ?_⟩
      · rw [← e2.length]
        have := line_of (n := 1000000) (Nat.le_refl _)
        omega
      · exact fin_chg (m := .lst (l ++ [d])) wr hn em (no_tbl trivial) ⟨_, rfl, e2.append (repL_cons rv repL_nil)⟩ rp_non q
    · exact q.elim
  · exact q.elim⟩
def popD : GM := fun x xs M => match x, xs with
  | .own n, [] => match M[n]? with
    | some (some (.lst l)) => match l[l.length - 1]? with
      | some d => .ok d (setM M n (.lst l.dropLast))
      | none => .bad
    | _ => .bad
  | _, _ => .bad
theorem m_pop : MtD X "list.pop" popD := ⟨_, mt_pop, fun w x xs vx vs Q E wr rx rxs q => by
  unfold popD at q
  split at q
  · rename_i n
    simp only [Rp, Rep] at rx
    obtain ⟨a, rfl, hn⟩ := rx
    simp only [RpL, RepL] at rxs
    subst rxs
    split at q
    · rename_i l em
      obtain ⟨us, e1, e2⟩ := wr.obj n a _ hn em
      split at q
      · rename_i d ed
        obtain ⟨v, h3, h4⟩ := e2.get ed
        refine ⟨a, us, v, rfl, rfl, e1, by rw [← e2.length]; exact h3, ?_⟩
        exact fin_chg (m := .lst l.dropLast) wr hn em (no_tbl trivial) ⟨_, rfl, e2.dropLast⟩ h4 q
      · exact q.elim
    · exact q.elim
  · exact q.elim⟩
def popAtD : GM := fun x xs M => match x, xs with
  | .own n, [.int i] => match M[n]? with
    | some (some (.lst l)) => if 0 ≤ i ∧ i < 1000000 then (match l[i.toNat]? with
      | some d => .ok d (setM M n (.lst (l.eraseIdx i.toNat)))
      | none => .bad) else .bad
    | _ => .bad
  | _, _ => .bad
theorem m_popAt : MtD X "list.pop" popAtD := ⟨_, mt_popAt, fun w x xs vx vs Q E wr rx rxs q => by
  unfold popAtD at q
  split at q
  · rename_i n i
    simp only [Rp, Rep] at rx
    obtain ⟨a, rfl, hn⟩ := rx
    obtain ⟨v, rfl, rv⟩ := repL1 rxs
    obtain rfl := rp_int_inv rv
    split at q
    · rename_i l em
      obtain ⟨us, e1, e2⟩ := wr.obj n a _ hn em
      obtain ⟨⟨c1, c2⟩, q⟩ := aft_if q
      split at q
      · rename_i d ed
        obtain ⟨v, h3, h4⟩ := e2.get ed
        have hlt : i.toNat < us.length := (List.getElem?_eq_some_iff.mp h3).1
        have hix : ixN us.length i = some i.toNat := by
          unfold ixN
          rw [if_pos c1, if_pos (by omega)]
        refine ⟨a, us, i, i.toNat, v, rfl, rfl, e1, by omega, by omega, (ixN_seq hix).1, h3, ?_⟩
        exact fin_chg (m := .lst (l.eraseIdx i.toNat)) wr hn em (no_tbl trivial) ⟨_, rfl, e2.eraseIdx _⟩ h4 q
      · exact q.elim
    · exact q.elim
  · exact q.elim⟩
def extendD : GM := fun x xs M => match x, xs with
  | .own n, [.lst d] => match M[n]? with
    | some (some (.lst l)) => if l.length + d.length ≤ 1000000 then .ok .non (setM M n (.lst (l ++ d))) else .bad
    | _ => .bad
  | _, _ => .bad
theorem m_extend : MtD X "list.extend" extendD := ⟨_, mt_extend, fun w x xs vx vs Q E wr rx rxs q => by
  unfold extendD at q
  split at q
  · rename_i n d
    simp only [Rp, Rep] at rx
    obtain ⟨a, rfl, hn⟩ := rx
    obtain ⟨v, rfl, rv⟩ := repL1 rxs
    simp only [Rp, Rep] at rv
    obtain ⟨b, zs, rfl, hb, hz⟩ := rv
    split at q
    · rename_i l em
      obtain ⟨us, e1, e2⟩ := wr.obj n a _ hn em
      obtain ⟨c, q⟩ := aft_if q
      refine ⟨a, b, us, zs, rfl, rfl, e1, vis_sub w _ _ hb, ?_, ?_⟩
      · rw [← e2.length, ← hz.length]
        exact line_of c
      · exact fin_chg (m := .lst (l ++ d)) wr hn em (no_tbl trivial) ⟨_, rfl, e2.append hz⟩ rp_non q
    · exact q.elim
  · exact q.elim⟩
def eBits (mo : Env → Mem → Res D) : Env → Mem → Res D := fun ρ M => (mo ρ M).bind fun x M1 => match x with
  | .int i => .ok (.int (Builtin.Int.intBits i : Nat)) M1
  | _ => .bad
theorem d_bits {o : Expr} {mo : Env → Mem → Res D} {apos pos : Pos} (ho : PE X o (tE X W mo)) (hbase : attributeBase o "bit_length" X.env (eval o X.env) = eval o X.env := by rfl) (hline : (apos.endLine == pos.line) = true := by rfl) :
    PE X (.Call (.Attribute o "bit_length" apos) [] [] pos) (tE X W (eBits mo)) := PE.imp (pe_bits ho hbase hline) fun σ H Q ⟨w, ρ, hH, wr, sl, q⟩ => by
  subst hH
  unfold tBits
  refine tR_step wr sl q fun w1 x vx ext1 wr1 rx q1 => ?_
  cases x with
  | int i =>
    obtain rfl := rp_int_inv rx
    exact ⟨i, rfl, Aft.here q1 wr1 _ rp_int⟩
  | _ => exact q1.elim
/-- x[::-1] of a list, seen or owned from now on -/
def revD : G1 := fun x M => match x with
  | .lst l => .ok (.lst l.reverse) M
  | _ => .bad
def revO : G1 := fun x M => match x with
  | .lst l => .ok (.own M.length) (M ++ [some (.lst l.reverse)])
  | _ => .bad
theorem d_rev {e : Expr} {m : Env → Mem → Res D} {k : Nat} {p1 p2 p3 pos : Pos} (he : PE X e (tE X W m)) : PE X (.Subscript e (.Slice none none (some (.UnaryOp .USub (.Constant (.int 1) k p1) p2)) p3) pos) (tE X W (e1 revD m)) := PE.imp (pe_revL he) fun σ H Q ⟨w, ρ, hH, wr, sl, q⟩ => by
  subst hH
  unfold tRevL
  refine tR_step wr sl q fun w1 x vx ext1 wr1 rx q1 => ?_
  cases x with
  | lst l =>
    simp only [Rp, Rep] at rx
    obtain ⟨a, vs, rfl, hs, hl⟩ := rx
    exact ⟨a, vs, rfl, SqL.of (vis_sub w1 _ _ hs), fin_lst wr1 hl.reverse q1⟩
  | _ => exact q1.elim
theorem d_revO {e : Expr} {m : Env → Mem → Res D} {k : Nat} {p1 p2 p3 pos : Pos} (he : PE X e (tE X W m)) : PE X (.Subscript e (.Slice none none (some (.UnaryOp .USub (.Constant (.int 1) k p1) p2)) p3) pos) (tE X W (e1 revO m)) := PE.imp (pe_revL he) fun σ H Q ⟨w, ρ, hH, wr, sl, q⟩ => by
  subst hH
  unfold tRevL
  refine tR_step wr sl q fun w1 x vx ext1 wr1 rx q1 => ?_
  cases x with
  | lst l =>
    simp only [Rp, Rep] at rx
    obtain ⟨a, vs, rfl, hs, hl⟩ := rx
    exact ⟨a, vs, rfl, SqL.of (vis_sub w1 _ _ hs), fin_own (m := .lst l.reverse) wr1 (no_tbl trivial) ⟨_, rfl, hl.reverse⟩ q1⟩
  | _ => exact q1.elim

/-! ### dicts that are owned -/
def dGet (l : List (Key × D)) (k : Key) : Option D := (l.find? fun z => decide (z.1 = k)).map (·.2)
def dPut (l : List (Key × D)) (k : Key) (d : D) : List (Key × D) :=
  if (l.any fun z => decide (z.1 = k)) = true then l.map (fun z => if z.1 = k then (z.1, d) else z) else l ++ [(k, d)]
def keyOf : D → Option Key
  | .int i => some (.inl i)
  | .str x => some (.inr x)
  | _ => none
theorem key_rel {w : Vw} {d : D} {v : V} {k : Key} (r : Rp X.K w d v) (e : keyOf d = some k) : v = kV k := by
  cases d with
  | int i =>
    cases e
    exact rp_int_inv r
  | str i =>
    cases e
    exact rp_str_inv r
  | _ => cases e
section
variable {K : PySem.W.Frag} {al : List Addr} {F : Hp}
theorem repK_get : ∀ {l : List (Key × D)} {vs : List (Key × V)} {k : Key} {d : D}, RepK K al F l vs → dGet l k = some d → ∃ v, valV vs k = some v ∧ Rep K al F d v
  | [], _, k, d, _, e => by cases e
  | z :: l, _, k, d, h, e => by
    obtain ⟨v, r, rfl, h1, h2, h3⟩ := h
    unfold dGet valV at *
    rw [List.find?_cons] at e ⊢
    by_cases hk : z.1 = k
    · rw [decide_eq_true hk] at e
      rw [decide_eq_true (h1.symm.trans hk)]
      cases e
      exact ⟨v.2, rfl, h2⟩
    · rw [decide_eq_false hk] at e
      rw [decide_eq_false fun q => hk (h1.trans q)]
      exact repK_get h3 e
theorem repK_any : ∀ {l : List (Key × D)} {vs : List (Key × V)} {k : Key}, RepK K al F l vs → (l.any fun z => decide (z.1 = k)) = (vs.any fun z => decide (z.1 = k))
  | [], vs, k, h => by
    have e : vs = [] := h
    rw [e]
    rfl
  | z :: l, _, k, h => by
    obtain ⟨v, r, rfl, h1, h2, h3⟩ := h
    rw [List.any_cons, List.any_cons, h1, repK_any h3]
theorem repK_map : ∀ {l : List (Key × D)} {vs : List (Key × V)} {k : Key} {d : D} {v : V}, RepK K al F l vs → Rep K al F d v → RepK K al F (l.map fun z => if z.1 = k then (z.1, d) else z) (vs.map fun z => if z.1 = k then (z.1, v) else z)
  | [], vs, k, d, v, h, _ => by
    have e : vs = [] := h
    rw [e]
    rfl
  | z :: l, _, k, d, v, h, hr => by
    obtain ⟨u, r, rfl, h1, h2, h3⟩ := h
    rw [List.map_cons, List.map_cons]
    refine ⟨_, _, rfl, ?_, ?_, repK_map h3 hr⟩
    · by_cases hk : z.1 = k
      · rw [if_pos hk, if_pos (h1.symm.trans hk)]
        exact h1
      · rw [if_neg hk, if_neg fun q => hk (h1.trans q)]
        exact h1
    · by_cases hk : z.1 = k
      · rw [if_pos hk, if_pos (h1.symm.trans hk)]
        exact hr
      · rw [if_neg hk, if_neg fun q => hk (h1.trans q)]
        exact h2
theorem repK_append : ∀ {l m : List (Key × D)} {vs us : List (Key × V)}, RepK K al F l vs → RepK K al F m us → RepK K al F (l ++ m) (vs ++ us)
  | [], _, vs, _, h, h2 => by
    have e : vs = [] := h
    rw [e]
    exact h2
  | z :: l, _, _, _, h, h2 => by
    obtain ⟨v, r, rfl, h3, h4, h5⟩ := h
    exact ⟨v, _, rfl, h3, h4, repK_append h5 h2⟩
theorem repK_put {l : List (Key × D)} {vs : List (Key × V)} {k : Key} {d : D} {v : V} (h : RepK K al F l vs) (hr : Rep K al F d v) : RepK K al F (dPut l k d) (putK vs k v) := by
  unfold dPut putK
  rw [repK_any (k := k) h]
  by_cases hc : (vs.any fun z => decide (z.1 = k)) = true
  · rw [if_pos hc, if_pos hc]
    exact repK_map h hr
  · rw [if_neg hc, if_neg hc]
    exact repK_append h ⟨(k, v), [], rfl, rfl, hr, rfl⟩
end
/-- x[k] of an owned dict -/
def dgetD : G2 := fun x y M => match x with
  | .own n => match keyOf y with
    | some k => match M[n]? with
      | some (some (.dct l)) => optR (dGet l k) M
      | _ => .bad
    | none => .bad
  | _ => .bad
theorem d_dget {o i : Expr} {mo mi : Env → Mem → Res D} {pos : Pos} (hu : X.A.units + 1 < cLine) (ho : PE X o (tE X W mo)) (hi : PE X i (tE X W mi)) (hs : NoSl i := by exact fun _ _ => rfl) : PE X (.Subscript o i pos) (tE X W (e2 dgetD mo mi)) := PE.imp (pe_dget hu ho hi hs) fun σ H Q ⟨w, ρ, hH, wr, sl, q⟩ => by
  subst hH
  unfold tDGet
  refine tR_step wr sl q fun w1 x vx ext1 wr1 rx q1 => ?_
  refine tR_step wr1 (ext1.slots sl) q1 fun w2 y vy ext2 wr2 ry q2 => ?_
  have rx2 := ext2.rp rx
  unfold dgetD at q2
  split at q2
  · rename_i n
    simp only [Rp, Rep] at rx2
    obtain ⟨a, rfl, hn⟩ := rx2
    split at q2
    · rename_i k ek
      split at q2
      · rename_i l em
        obtain ⟨us, e1, e2⟩ := wr2.obj n a _ hn em
        obtain ⟨d, ed, q2⟩ := aft_opt q2
        obtain ⟨v, h1, h2⟩ := repK_get e2 ed
        refine ⟨a, v, rfl, ?_, Aft.here q2 wr2 _ h2⟩
        rw [key_rel ry ek, ← h1]
        exact DGet.k e1
      · exact q2.elim
    · exact q2.elim
  · exact q2.elim
/-- x[k] = e of an owned dict -/
def sPut (mo mi mv : Env → Mem → Res D) : SD := fun ρ M => liftR (mv ρ M) ρ fun v M1 => liftR (mo ρ M1) ρ fun x M2 => liftR (mi ρ M2) ρ fun y M3 => match x with
  | .own n => match keyOf y with
    | some k => match M3[n]? with
      | some (some (.dct l)) => if l.length < 1000000 then .nx ρ (setM M3 n (.dct (dPut l k v))) else .bad
      | _ => .bad
    | none => .bad
  | _ => .bad
theorem afs_if {K : PySem.W.Frag} {mg : Str → Option Value} {w : Vw} {c : Prop} [Decidable c] {r : SR} {Dn : Ends} (h : AftS K mg w (if c then r else .bad) W Dn) : c ∧ AftS K mg w r W Dn := by
  by_cases hc : c
  · rw [if_pos hc] at h
    exact ⟨hc, h⟩
  · rw [if_neg hc] at h
    exact h.elim
theorem ds_put {o i value : Expr} {mo mi mv : Env → Mem → Res D} {pos pos' : Pos} (hu : X.A.units + 1 < cLine) (ho : PE X o (tE X W mo)) (hi : PE X i (tE X W mi)) (hv : PE X value (tE X W mv)) (hs : swapsWith value (some (.Subscript o i pos')) pos.line X.env = pure false := by rfl) :
    PS X (.Assign [.Subscript o i pos'] value pos) (tS X W (sPut mo mi mv)) := PS.imp (ps_dput hu ho hi hv hs) fun Dn σ H ⟨w, ρ, hH, wr, sl, q⟩ => by
  subst hH
  unfold sDPut
  refine tR_stepS wr sl q fun w1 v vv ext1 wr1 sl1 rv q1 => ?_
  refine tR_stepS wr1 sl1 q1 fun w2 x vx ext2 wr2 sl2 rx q2 => ?_
  refine tR_stepS wr2 sl2 q2 fun w3 y vy ext3 wr3 sl3 ry q3 => ?_
  have rx3 := ext3.rp rx
  have rv3 := (ext2.trans ext3).rp rv
  split at q3
  · rename_i n
    simp only [Rp, Rep] at rx3
    obtain ⟨a, rfl, hn⟩ := rx3
    split at q3
    · rename_i k ek
      split at q3
      · rename_i l em
        obtain ⟨us, e1, e2⟩ := wr3.obj n a _ hn em
        obtain ⟨c, q3⟩ := afs_if q3
        have hl : us.length < sizeLine := by
          rw [← repK_len e2]
          have := line_of (n := 1000000) (Nat.le_refl _)
          omega
        obtain ⟨ext, wr'⟩ := chg wr3 hn em (.dK (putK us k vv)) (no_tbl trivial) (.dct (dPut l k v)) ⟨_, rfl, repK_put e2 rv3⟩
        refine ⟨a, _, rfl, ?_, q3 _ σ ext rfl wr' (ext.slots sl3)⟩
        rw [key_rel ry ek]
        exact DPut.k e1 hl
      · exact q3.elim
    · exact q3.elim
  · exact q3.elim
end DL
namespace DL
open PySem PySem.Spec L2
variable [TabsOf]
open PyProof.Rows (envOfC)

/-! ### defs that run where nothing is being shown (repr) -/
structure FnG (gd : Bool) (P : Program) (wd : World) (K : PySem.W.Frag) (mg : Str → Option Value) (base : Heap) (k : Nat) (f : Addr) (fd : FuncData) (ps : List Str) (sp : Sp) : Prop where
  len : ∀ vs H Q E, sp vs H Q E → vs.length = ps.length
  run : ∀ (A : Around) (fr : List PySem.Env) (s : Shared) (H : Hp) (args : Args) (us : List Value) (vs : List V) (Q : VK) (E : XK), Room k A → (gd = true → A.guards = some []) → Env0 P wd K mg base A fr s H → BindsTo s fd args (ps.zip us) → Vals vs us → sp vs H Q E →
    codeAny (model P wd) A (.call (.ref f) args) (CR (L2.CX P wd) fr P wd H s Q E) s
theorem FnG.mono {gd : Bool} {P : Program} {wd : World} {K : PySem.W.Frag} {mg : Str → Option Value} {base : Heap} {j k : Nat} {f : Addr} {fd : FuncData} {ps : List Str} {sp : Sp} (F : FnG gd P wd K mg base j f fd ps sp) (h : j ≤ k) : FnG gd P wd K mg base k f fd ps sp :=
  ⟨F.len, fun A fr s H args us vs Q E hr => F.run A fr s H args us vs Q E (hr.mono h)⟩
/-- a def's promise, by its denotation -/
def spD (K : PySem.W.Frag) (mg : Str → Option Value) (n : Nat) (m : List D → Mem → Res D) : Sp := fun vs H Q E =>
  ∃ w ds, w.H = H ∧ WR K w ∧ RpL K w ds vs ∧ ds.length = n ∧ Aft K mg w (m ds w.M) (fun w' d => ∀ v, Rp K w' d v → Q v w'.H) E
/-- the body's denotation as a def's -/
def runB (n : Nat) (b : SD) : List D → Mem → Res D := fun ds M => match b (ds.map some ++ List.replicate (n - ds.length) none) M with
  | .rt d M' => .ok d M'
  | .nx _ M' => .ok .non M'
  | .exc e _ M' => .exc e M'
  | _ => .bad
section
variable {gd : Bool} {P : Program} {wd : World} {K : PySem.W.Frag} {mg : Str → Option Value} {base : Heap} {x qual : Str} {params : Arguments} {body : List Stmt} {scope : Scope} {dvs : List V} {kws : List (Str × V)} {f : Addr} {fd : FuncData} {N ps : List Str} {k : Nat}
theorem fnG_body {sp : Sp} (F : FunD K x qual params body scope dvs kws f fd) (S : FnScope N ps scope) (len : ∀ vs H Q E, sp vs H Q E → vs.length = ps.length)
    (hb : ∀ (cdv : Value) (A : Around) (fr : List PySem.Env) (s : Shared) (H : Hp) (vs : List V) (Q : VK) (E : XK), cdv = fd.code → Room k (A.deeper (envOfC qual scope s.heap.objs.size f cdv)) → (gd = true → A.guards = some []) → sp vs H Q E →
      ∃ t, PSs (cxOf (L2.CX P wd) P wd K mg base N qual scope f cdv A fr s H E) body t ∧ t { nx := fun _ H' => Q .non H', rt := Q } (L2.start N vs) H) : FnG gd P wd K mg base (k + 1) f fd ps sp := by
  obtain ⟨oc, od, dV, kV, doc, pm, an, cdv, ct, osl, rfl, lk, hcd, _, _⟩ := F.ex
  refine ⟨len, fun A fr s H args us vs Q E room hgd env bnd rel want => ?_⟩
  have many : vs.length = ps.length := len _ _ _ _ want
  have inK : K.In s.heap := env.mod.kin.keeps (fun b o e => (env.bs b o e).1)
  have noLim : s.heap.NoLimit := env.mod.nolimit.keeps (fun b o e => (env.bs b o e).1)
  have kinds : ∀ z ∈ ps.zip us, scope.names.lookup z.1 = some .local ∨ scope.names.lookup z.1 = some .cell ∧ ((cellsFrom (s.heap.objs.size + 1) scope.names []).lookup z.1).isSome = true := by
    intro z hz
    obtain ⟨nm, val⟩ := z
    cases S.par nm (List.of_mem_zip hz).1 with
    | inl q => exact Or.inl q
    | inr q => exact Or.inr ⟨q, PySem.W.cellsFrom_some _ _ _ (Or.inl q)⟩
  refine codeAny_call_function room.depth (inK _ _ lk) rfl S.co S.gen rfl (PySem.W.codeRec_of inK hcd) (bnd _ _ _ _ ?_)
  refine wpAny_newFunctionEnv_cells S.kind kinds (fun ev hev s1 ic => ?_)
  subst hev
  refine ⟨noLim.keeps ic.toInCall.keep, codeAny_func ?_⟩
  obtain ⟨t, ht, goal⟩ := hb cdv A fr s H vs Q E rfl (room.deeper _) hgd want
  have inv : L2.Inv (cxOf (L2.CX P wd) P wd K mg base N qual scope f cdv A fr s H E) [] (L2.start N vs) H s1 := inv_start S room.hd env many rel ic
  refine wpAny_mono (ht.run [] s1 (L2.start N vs) H _ inv goal) (fun fl s2 out => ?_) (fun _ _ out => out)
  cases fl with
  | ret u =>
    obtain ⟨v, _, H2, J, rv, q⟩ := out
    exact ⟨v, H2, J.os, J.bare, J.base, J.hok, rv, q⟩
  | next =>
    obtain ⟨_, H2, J, q⟩ := out
    exact ⟨V.non, H2, J.os, J.bare, J.base, J.hok, rfl, q⟩
  | brk =>
    obtain ⟨_, _, _, q⟩ := out
    exact q.elim
  | cont =>
    obtain ⟨_, _, _, q⟩ := out
    exact q.elim
theorem slots_start {w : Vw} {ds : List D} {vs : List V} (h : RpL K w ds vs) (n : Nat) : Slots K w (ds.map some ++ List.replicate n none) (vs.map some ++ List.replicate n none) := by
  refine ⟨by simp [h.length], fun i d e => ?_⟩
  by_cases hi : i < ds.length
  · rw [List.getElem?_append_left (by simpa using hi), List.getElem?_map] at e
    obtain ⟨d', e1, e2⟩ := Option.map_eq_some_iff.mp e
    cases e2
    obtain ⟨v, h1, h2⟩ := h.get e1
    refine ⟨v, ?_, h2⟩
    rw [List.getElem?_append_left (by rw [List.length_map, ← h.length]; exact hi), List.getElem?_map, h1]
    rfl
  · rw [List.getElem?_append_right (by simpa using hi), List.getElem?_replicate] at e
    split at e <;> cases e
/-- a def of the text, by its body's denotation -/
theorem fnG_of {b : SD} (F : FunD K x qual params body scope dvs kws f fd) (S : FnScope N ps scope)
    (hb : ∀ (cdv : Value) (A : Around) (fr : List PySem.Env) (s : Shared) (H : Hp) (E : XK), cdv = fd.code → Room k (A.deeper (envOfC qual scope s.heap.objs.size f cdv)) → (gd = true → A.guards = some []) → Takes (cxOf (L2.CX P wd) P wd K mg base N qual scope f cdv A fr s H E) (fun cls d _ H => E cls d H) →
      PSs (cxOf (L2.CX P wd) P wd K mg base N qual scope f cdv A fr s H E) body (tS (cxOf (L2.CX P wd) P wd K mg base N qual scope f cdv A fr s H E) (fun cls d _ H => E cls d H) b)) : FnG gd P wd K mg base (k + 1) f fd ps (spD K mg ps.length (runB N.length b)) := by
  refine fnG_body F S (fun vs H Q E h => ?_) fun cdv A fr s H vs Q E hcv room hgd want => ⟨_, hb cdv A fr s H E hcv room hgd (takes_of rfl rfl rfl rfl), ?_⟩
  · obtain ⟨w, ds, _, _, hl, e, _⟩ := h
    rw [← e, hl.length]
  · obtain ⟨w, ds, rfl, wr, hl, e, q⟩ := want
    refine ⟨w, ds.map some ++ List.replicate (N.length - ds.length) none, rfl, wr, ?_, ?_⟩
    · unfold L2.start
      rw [hl.length]
      exact slots_start hl _
    · unfold runB at q
      cases eb : b (ds.map some ++ List.replicate (N.length - ds.length) none) w.M with
      | rt d M' =>
        rw [eb] at q
        exact fun w' v ext hM wr' r => q w' ext hM wr' v r
      | nx ρ' M' =>
        rw [eb] at q
        exact fun w' σ' ext hM wr' _ => q w' ext hM wr' .non (by simp only [Rp, Rep])
      | exc y ρ' M' =>
        rw [eb] at q
        exact fun w' σ' C dx v ext hM wr' _ hm hd r => q w' C dx v ext hM wr' hm hd r
      | bk ρ' M' =>
        rw [eb] at q
        exact q.elim
      | ct ρ' M' =>
        rw [eb] at q
        exact q.elim
      | bad =>
        rw [eb] at q
        exact q.elim
end
/-- a def of the module: what callers use -/
structure DefG (gd : Bool) (P : Program) (wd : World) (K : PySem.W.Frag) (mg : Str → Option Value) (base : Heap) (x : Str) (ps : List Str) (k : Nat) (m : List D → Mem → Res D) : Prop where
  ex : ∃ f fd, mg x = some (.ref f) ∧ PySem.W.keepIn K (.ref f) = true ∧ Binds K fd ps [] ∧ FnG gd P wd K mg base k f fd ps (spD K mg ps.length m)
theorem DefG.mono {gd : Bool} {P : Program} {wd : World} {K : PySem.W.Frag} {mg : Str → Option Value} {base : Heap} {x : Str} {ps : List Str} {j k : Nat} {m : List D → Mem → Res D} (F : DefG gd P wd K mg base x ps j m) (h : j ≤ k) : DefG gd P wd K mg base x ps k m := by
  obtain ⟨f, fd, h1, h2, h3, h4⟩ := F.ex
  exact ⟨f, fd, h1, h2, h3, h4.mono h⟩
/-- the same denotation, told otherwise -/
theorem DefG.as {gd : Bool} {P : Program} {wd : World} {K : PySem.W.Frag} {mg : Str → Option Value} {base : Heap} {x : Str} {ps : List Str} {k : Nat} {m m' : List D → Mem → Res D} (F : DefG gd P wd K mg base x ps k m) (h : ∀ ds M, ds.length = ps.length → m' ds M ≠ .bad → m ds M = m' ds M) : DefG gd P wd K mg base x ps k m' := by
  obtain ⟨f, fd, h1, h2, h3, h4⟩ := F.ex
  have key : ∀ vs H Q E, spD K mg ps.length m' vs H Q E → spD K mg ps.length m vs H Q E := fun vs H Q E ⟨w, ds, e1, e2, e3, e4, e5⟩ => by
    refine ⟨w, ds, e1, e2, e3, e4, ?_⟩
    rw [h ds w.M e4 fun z => by rw [z] at e5; exact e5.elim]
    exact e5
  exact ⟨f, fd, h1, h2, h3, ⟨fun vs H Q E z => h4.len vs H Q E (key _ _ _ _ z), fun A fr s H args us vs Q E r g e b rv z => h4.run A fr s H args us vs Q E r g e b rv (key _ _ _ _ z)⟩⟩
variable {X : Cx} {W : WX} {gd : Bool}
/-- f(e, ..) -/
theorem callee_runs {k : Nat} {f : Addr} {fd : FuncData} {ps : List Str} {sp : Sp} {pins : List (Addr × Obj)} {σ : L2.St} {H : Hp} {s : Shared} {Q : VK} {us zs : List Value} {ks : List Str} {vs : List V} {ws : List Value} (F : FnG gd X.prog X.w X.K X.mg X.base k f fd ps sp) (room : Room k X.A) (hgd : gd = true → X.A.guards = some []) (tk : Takes X W)
    (I : L2.Inv X pins σ H s) (bnd : ws.length = ps.length → BindsTo s fd ⟨us, ks.zip zs⟩ (ps.zip ws)) (r : Vals vs ws) (want : sp vs H Q (WE W σ)) : wpAny (model X.prog X.w) X.A (call (.ref f) us (ks.zip zs)) (EP X pins σ Q) X.xe s := by
  have many : ws.length = ps.length := by
    rw [← r.length]
    exact F.len _ _ _ _ want
  refine wpAny_call (codeAny_mono (F.run X.A X.stack s H _ ws vs Q (WE W σ) room hgd I.env0 (bnd many) r want) fun out s' hq => ?_)
  cases out with
  | error e => exact passAt tk σ pins H s e s' I hq
  | ok fl =>
    cases fl with
    | ret u => exact Inv.after I hq
    | next => exact (show False from hq).elim
    | brk => exact (show False from hq).elim
    | cont => exact (show False from hq).elim
theorem t_call {σ : L2.St} {H : Hp} {Q : VK} {n : Nat} {g : GL} {m : Env → Mem → Res (List D)} (hn : ∀ ρ M ds M', m ρ M = .ok ds M' → ds.length = n) (h : tE X W (eL g m) σ H Q) : tA X W m σ H (fun vs H1 => spD X.K X.mg n g vs H1 Q (WE W σ)) := by
  obtain ⟨w, ρ, hH, wr, sl, q⟩ := h
  subst hH
  refine ⟨w, ρ, rfl, wr, sl, ?_⟩
  unfold eL at q
  cases e : m ρ w.M with
  | ok ds M' =>
    rw [e] at q
    intro w1 ext hM wr1 vs rv
    have q1 : Aft X.K X.mg w1 (g ds w1.M) (fun w' d => ∀ v, Rp X.K w' d v → Q v w'.H) (fun c dx H' => W c dx σ H') := by
      rw [hM]
      exact Aft.ext q ext
    exact ⟨w1, ds, rfl, wr1, rv, hn _ _ _ _ e, q1⟩
  | exc y M' =>
    rw [e] at q
    exact q
  | bad =>
    rw [e] at q
    exact q
theorem cnt_nil : ∀ ρ M ds M', aNil ρ M = .ok ds M' → ds.length = 0 := fun ρ M ds M' h => by
  cases h
  rfl
theorem cnt_cons {n : Nat} {ma : Env → Mem → Res D} {mr : Env → Mem → Res (List D)} (h : ∀ ρ M ds M', mr ρ M = .ok ds M' → ds.length = n) : ∀ ρ M ds M', aCons ma mr ρ M = .ok ds M' → ds.length = n + 1 := fun ρ M ds M' e => by
  unfold aCons at e
  cases e1 : ma ρ M with
  | ok d M1 =>
    rw [e1] at e
    cases e2 : mr ρ M1 with
    | ok xs M2 =>
      have e' : ((mr ρ M1).bind fun xs M2 => Res.ok (d :: xs) M2) = .ok ds M' := e
      rw [e2] at e'
      cases e'
      simp [h ρ M1 xs _ e2]
    | exc y M2 =>
      have e' : ((mr ρ M1).bind fun xs M2 => Res.ok (d :: xs) M2) = .ok ds M' := e
      rw [e2] at e'
      cases e'
    | bad =>
      have e' : ((mr ρ M1).bind fun xs M2 => Res.ok (d :: xs) M2) = .ok ds M' := e
      rw [e2] at e'
      cases e'
  | exc y M1 =>
    rw [e1] at e
    cases e
  | bad =>
    rw [e1] at e
    cases e
theorem d_call {k : Nat} {x : Str} {ps : List Str} {g : GL} {e : Expr} {es : List Expr} {m : Env → Mem → Res (List D)} {p pos : Pos} (F : DefG gd X.prog X.w X.K X.mg X.base x ps k g) (room : Room k X.A) (hgd : gd = true → X.A.guards = some []) (tk : Takes X W) (hg : Gl X x) (ha : PA X (e :: es) (tA X W m))
    (hn : ∀ ρ M ds M', m ρ M = .ok ds M' → ds.length = ps.length) (hdb : (x == ("__debug__" : Str)) = false := by decide) (he : starEach (e :: es) X.env = (false, eval e X.env) :: starEach es X.env := by rfl) (hpl : (backTo pos (starEach es X.env)).any (·.1) = false := by rfl) :
    PE X (.Call (.Name x p) (e :: es) [] pos) (tE X W (eL g m)) := by
  obtain ⟨f, fd, h1, h2, h3, h4⟩ := F.ex
  refine ⟨fun pins s σ H Q I h => wpAny_Call_Name_kw (ld_glob I hg h1 ?_ hdb)⟩
  refine PySem.W.callWith_K (h₀ := X.base) I.ok.mod.kin h2 (thn (ha.run pos pins s σ H _ I (t_call hn h)) ?_) he hpl
  rintro us s1 ⟨vs, H1, I1, r, q⟩
  refine ⟨I1.kIn, ?_⟩
  have b := fun hl => h3 s1 us I1.kIn (by rw [List.append_nil]; exact hl)
  rw [List.append_nil] at b
  exact callee_runs (ks := []) (zs := []) h4 room hgd tk I1 b r q
/-- the def takes these keywords: g puts the positional values and the keywords' in the parameters' order -/
structure KwG (K : PySem.W.Frag) (fd : FuncData) (ps ks : List Str) (n : Nat) (π : List Nat) : Prop where
  to : ∀ (s : Shared) (us ws : List Value), K.In s.heap → us.length = n → ws.length = ks.length → BindsTo s fd ⟨us, ks.zip ws⟩ (ps.zip (π.filterMap fun i => (us ++ ws)[i]?))
  lt : ∀ i ∈ π, i < n + ks.length
structure DefK (gd : Bool) (P : Program) (wd : World) (K : PySem.W.Frag) (mg : Str → Option Value) (base : Heap) (x : Str) (ps : List Str) (k : Nat) (m : List D → Mem → Res D) (ks : List Str) (n : Nat) (π : List Nat) : Prop where
  ex : ∃ f fd, mg x = some (.ref f) ∧ PySem.W.keepIn K (.ref f) = true ∧ KwG K fd ps ks n π ∧ FnG gd P wd K mg base k f fd ps (spD K mg ps.length m)
def permD {α : Type} (π : List Nat) (l : List α) : List α := π.filterMap fun i => l[i]?
theorem permD_rel {K : PySem.W.Frag} {al : List Addr} {F : Hp} {ds : List D} {vs : List V} (h : RepL K al F ds vs) : ∀ {π : List Nat}, (∀ i ∈ π, i < ds.length) → RepL K al F (permD π ds) (permD π vs)
  | [], _ => repL_nil
  | i :: π, hi => by
    have hl : i < ds.length := hi i List.mem_cons_self
    obtain ⟨v, h1, h2⟩ := h.get (i := i) (d := ds[i]) (by simp [hl])
    have e1 : permD (i :: π) ds = ds[i] :: permD π ds := by simp [permD, hl]
    have e2 : permD (i :: π) vs = v :: permD π vs := by simp [permD, h1]
    rw [e1, e2]
    exact repL_cons h2 (permD_rel h fun j hj => hi j (List.mem_cons_of_mem _ hj))
theorem permD_vals {vs : List V} {us : List Value} (h : Vals vs us) : ∀ {π : List Nat}, (∀ i ∈ π, i < vs.length) → Vals (permD π vs) (permD π us)
  | [], _ => .nil
  | i :: π, hi => by
    have hl : i < vs.length := hi i List.mem_cons_self
    obtain ⟨u, h1, h2⟩ := h.get (i := i) (x := vs[i]) (by simp [hl])
    have e1 : permD (i :: π) vs = vs[i] :: permD π vs := by simp [permD, hl]
    have e2 : permD (i :: π) us = u :: permD π us := by simp [permD, h1]
    rw [e1, e2]
    exact .cons h2 (permD_vals h fun j hj => hi j (List.mem_cons_of_mem _ hj))
def eK (g : GL) (n j : Nat) (π : List Nat) (m mk : Env → Mem → Res (List D)) : Env → Mem → Res D := fun ρ M => (m ρ M).bind fun xs M1 => (mk ρ M1).bind fun ys M2 => if xs.length = n ∧ ys.length = j then g (permD π (xs ++ ys)) M2 else .bad
abbrev tK (X : Cx) (W : WX) := tA X W
theorem dk_nil : PK X [] (tA X W aNil) := ⟨fun pos pins s σ H Q I ⟨w, ρ, hH, wr, sl, q⟩ => pk_nil.run pos pins s σ H Q I (by subst hH; exact Aft.here q wr [] repL_nil)⟩
theorem dk_cons {e : Expr} {kws : List Keyword} {nm : Option Str} {kpos : Pos} {ma : Env → Mem → Res D} {mr : Env → Mem → Res (List D)} (ha : PE X e (tE X W ma)) (hr : PK X kws (tA X W mr)) : PK X (⟨nm, e, kpos⟩ :: kws) (tA X W (aCons ma mr)) :=
  ⟨fun pos pins s σ H Q I ⟨w, ρ, hH, wr, sl, q⟩ => (pk_cons ha hr).run pos pins s σ H Q I (by
    subst hH
    unfold tCons
    refine tR_step wr sl q fun w1 x vx ext1 wr1 rx q1 => ?_
    refine tR_step wr1 (ext1.slots sl) q1 fun w2 xs vs ext2 wr2 rxs q2 => ?_
    exact Aft.here q2 wr2 _ (repL_cons (ext2.rp rx) rxs))⟩
/-- f(k = v, ..) -/
theorem d_callK {k : Nat} {x : Str} {ps ks : List Str} {π : List Nat} {g : GL} {kws : List Keyword} {mk : Env → Mem → Res (List D)} {p pos : Pos} (F : DefK gd X.prog X.w X.K X.mg X.base x ps k g ks 0 π) (room : Room k X.A) (hgd : gd = true → X.A.guards = some []) (tk : Takes X W) (hg : Gl X x)
    (hkw : PK X kws (tA X W mk)) (hall : (backToKw pos (keywordEach kws X.env)).all (·.1.isSome) = true := by rfl) (hks : (backToKw pos (keywordEach kws X.env)).filterMap (·.1) = ks := by rfl) (hπ : π.length = ps.length := by rfl)
    (hdb : (x == ("__debug__" : Str)) = false := by decide) (hpl : ((backTo pos (starEach [] X.env)).any (·.1) || (backToKw pos (keywordEach kws X.env)).any (·.1.isNone)) = false := by rfl) :
    PE X (.Call (.Name x p) [] kws pos) (tE X W (eK g 0 ks.length π aNil mk)) := by
  obtain ⟨f, fd, h1, h2, h3, h4⟩ := F.ex
  refine ⟨fun pins s σ H Q I h => wpAny_Call_Name_kw (ld_glob I hg h1 ?_ hdb)⟩
  obtain ⟨w, ρ, hH, wr, sl, q⟩ := h
  subst hH
  have q2 : Aft X.K X.mg w ((mk ρ w.M).bind fun ys M2 => if ([] : List D).length = 0 ∧ ys.length = ks.length then g (permD π ([] ++ ys)) M2 else .bad) (fun w' d => ∀ v, Rp X.K w' d v → Q v w'.H) (fun c dx H' => W c dx σ H') := q
  have want : tA X W mk σ w.H (fun zs H1 => zs.length = ks.length ∧ spD X.K X.mg ps.length g (permD π zs) H1 Q (WE W σ)) := by
    refine tR_step wr sl q2 fun w1 ys vs ext wr1 rys q1 => ?_
    obtain ⟨⟨_, hl⟩, q1⟩ := aft_if q1
    have hlt : ∀ i ∈ π, i < ys.length := fun i hi => by
      have := h3.lt i hi
      omega
    refine ⟨by rw [← rys.length]; exact hl, w1, permD π ys, rfl, wr1, permD_rel rys hlt, ?_, q1⟩
    have many : ∀ {l : List Nat}, (∀ i ∈ l, i < ys.length) → (permD l ys).length = l.length := by
      intro l
      induction l with
      | nil => intro _; rfl
      | cons a l ih =>
        intro hl
        have ha : a < ys.length := hl a List.mem_cons_self
        have e1 : permD (a :: l) ys = ys[a] :: permD l ys := by simp [permD, ha]
        rw [e1, List.length_cons, List.length_cons, ih fun i hi => hl i (List.mem_cons_of_mem _ hi)]
    rw [many hlt, hπ]
  refine PySem.W.callWith_KW0 (h₀ := X.base) I.ok.mod.kin h2 hall (thn (hkw.run pos pins s σ _ _ I want) ?_) hpl
  rintro zs s1 ⟨vs, H1, I1, r, hl, q1⟩
  refine ⟨I1.kIn, ?_⟩
  rw [hks]
  have hz : zs.length = ks.length := by rw [← r.length]; exact hl
  have hlt : ∀ i ∈ π, i < vs.length := fun i hi => by
    have := h3.lt i hi
    omega
  exact callee_runs (us := []) (ws := permD π zs) h4 room hgd tk I1 (fun _ => h3.to s1 [] zs I1.kIn rfl hz) (permD_vals r hlt) q1
end DL
namespace DL
open PySem PySem.Spec L2
variable [TabsOf]
variable {X : Cx} {W : WX} {gd : Bool}

/-! ### repr -/
theorem line16 {n : Nat} (h : n ≤ 16000000) : n ≤ sizeLine := by
  rw [sizeLine_eq]
  omega
def rRepr (K : PySem.W.Frag) : List V → Hp → VK → Prop := fun vs H Q => ∃ x p, vs = [x] ∧ Dp K H x p ∧ p.showable = true ∧ p.depth ≤ 40 ∧ p.shown.length ≤ 16000000 ∧ p.hasDict = false ∧ Q (.str p.shown) H
theorem f_repr (hgd : X.A.guards = some []) (hu : X.A.units + 64 < cLine) : CallD X (.builtin "repr") reprD := ⟨rRepr X.K, by
  intro pins s σ H vs us Q I r h
  obtain ⟨x, p, rfl, hd, h1, h2, h3, h4, q⟩ := h
  obtain ⟨u, rfl, ru⟩ := vals1 r
  cases hd with
  | non =>
    obtain rfl : u = Value.none := ru
    exact PySem.P.repr_of_none ⟨.str _, H, I.tok _, ⟨_, rfl⟩, q⟩
  | bl b =>
    obtain rfl : u = Value.bool b := ru
    exact PySem.P.repr_of_bool ⟨.str _, H, I.tok _, ⟨_, rfl⟩, q⟩
  | int i =>
    obtain ⟨t, rfl⟩ := ru
    exact PySem.P.repr_of_int (of_decide_eq_true h1) ⟨.str _, H, I.tok _, ⟨_, rfl⟩, q⟩
  | str z =>
    obtain ⟨t, rfl⟩ := ru
    exact PySem.P.repr_of_str ⟨.str _, H, I.tok _, ⟨_, rfl⟩, q⟩ (line16 h3)
  | @lst a xs ds hs ha =>
    obtain rfl : u = Value.ref a := ru
    obtain ⟨as, rd⟩ := Dp.reads I _ _ _ (.lst hs ha) (show L2.RelV (.ref a) (.ref a) from rfl)
    exact repr_of_reads' rd h1 (PyData.noDict_hsm h4) hgd (by omega) (fun _ _ e => e) (fun h' u tk k => ⟨.str _, H, I.kept (t' := tk) k, ⟨_, rfl⟩, q⟩) (line16 h3)
  | @tup a xs ds hs ha =>
    obtain rfl : u = Value.ref a := ru
    obtain ⟨as, rd⟩ := Dp.reads I _ _ _ (.tup hs ha) (show L2.RelV (.ref a) (.ref a) from rfl)
    exact repr_of_reads' rd h1 (PyData.noDict_hsm h4) hgd (by omega) (fun _ _ e => e) (fun h' u tk k => ⟨.str _, H, I.kept (t' := tk) k, ⟨_, rfl⟩, q⟩) (line16 h3), fun w xs vs Q E wr rx q => by
  unfold reprD at q
  split at q
  · rename_i d
    obtain ⟨v, rfl, h1⟩ := repL1 rx
    split at q
    · rename_i p ep
      obtain ⟨⟨c1, c2, c3, c4⟩, q⟩ := aft_if q
      exact ⟨v, p, rfl, dpM_of wr h1 ep, c1, c2, c3, c4, Aft.here q wr _ rp_str⟩
    · exact q.elim
  · exact q.elim⟩
end DL

/-! ### an own exception class over Exception, with an __init__ that keeps its thing -/
namespace XB
open PySem PySem.W PySem.Calls PyProof.Rows PySem.HandSPX
open Builtin Builtin.ObjectAttr
def exTail : List Value := [.type "Exception", .type "BaseException", .type "object"]
/-- what the written part says of the class nm, at C, and of its __init__, at fI -/
structure Txt (K : Frag) (mg : Str → Option Value) (nm : Str) (C fI : Addr) : Prop where
  gC : mg nm = some (.ref C)
  mkr : excInitIn K C exTail "Exception.__new__" = true
  ov : excOver K C exTail = true
  sa : findIn K (.ref C) "__setattr__" = some (some (.builtin "object.__setattr__"))
  ga : findIn K (.ref C) "__getattribute__" = some (some (.builtin "BaseException.__getattribute__"))
  gg : findIn K (.ref C) "__getattr__" = some none
  tk : takerIn K C "thing" = some none
  no : findIn K (.ref C) "thing" = some none
  iC : findIn K (.ref C) "__init__" = some (some (.ref fI))
  tI : typeIn K (.ref fI) = some (.type "function")
  kC : keepIn K (.ref C) = true
  hd : hasDictIn K C = true
  sb : subIn K (.ref C) (.type "BaseException") = some true
  ty : typeIn K (.ref C) = some (.type "type")
  fn : ∃ (oc : Value) (od : Option Addr) (qual : Str) (par : Arguments) (sc : Scope) (dV kV doc pm : Value) (an : Option Addr) (cdv ct : Value) (osl : Array (Option Value)) (q1 q2 q3 q4 : Pos),
    K.lookup fI = some ⟨oc, od, .func (fnOf "__init__" qual par [.Assign [.Attribute (.Name "self" q1) "thing" q2] (.Name "thing" q3) q4] sc dV kV doc pm an cdv ct), osl⟩ ∧ codeIn K cdv qual = true ∧
    sc.kind = .function ∧ sc.isCoroutine = false ∧ sc.isGenerator = false ∧ sc.names = [(PySem.Str.ofString "self", .local), (PySem.Str.ofString "thing", .local)] ∧
    ∀ us : List Value, us.length = 2 → bindArgs (fnOf "__init__" qual par [.Assign [.Attribute (.Name "self" q1) "thing" q2] (.Name "thing" q3) q4] sc dV kV doc pm an cdv ct) ⟨us, []⟩ = pure ([("self" : Str), "thing"].zip us)
/-- what a made error is -/
structure Made (h h' : Heap) (e C d : Addr) (v : Value) : Prop where
  keep : ∀ b o, h.get? b = some o → h'.get? b = some o
  new : h.objs.size ≤ e
  obj : ∃ oe fs, h'.get? e = some oe ∧ oe.cls = .ref C ∧ oe.dict = some d ∧ oe.data = .fields fs ∧ fs[1]? = some .none
  dbig : h.objs.size ≤ d
  dne : d ≠ e
  ns : h'.Ns1 d (fun y => if y = "thing" then some v else none)
section
variable {prog : Program} {w : World} {A : Around} {E : Value → Shared → Prop} {R : Result → Shared → Prop} {s : Shared} {K : Frag} {mg : Str → Option Value} {C fI : Addr} {nm : Str}
/-- self.thing = v, the first field of all -/
theorem first_store (T : Txt K mg nm C fI) {x t0 : Addr} {tk : Tok} {v : Value} (X : K.In s.heap) (hx : s.heap.get? x = some (excO C t0))
    (hq : ∀ h' tk' dx, (∀ b o, b ≠ x → s.heap.get? b = some o → h'.get? b = some o) → s.heap.objs.size ≤ dx → dx ≠ x → h'.get? x = some { cls := .ref C, dict := some dx, data := .fields #[.ref t0, .none, .none, .none, .bool false, .none] } →
      h'.Ns1 dx (fun y => if y = "thing" then some v else none) → R (.ok (.ret .none)) { s with heap := h', toks := tk' }) :
    codeAny (model prog w) A (.call (.builtin "object.__setattr__") ⟨[.ref x, .str "thing" tk, v], []⟩) R s := by
  obtain ⟨hp, g, d, t, os⟩ := s
  refine osa_openX (od := none) F.store_Exception X ⟨hx, rfl, rfl, trivial⟩ T.ov T.tk fun b => ?_
  obtain ⟨cd, hc, hd'⟩ := any_some T.hd
  have hxs : x ≠ hp.objs.size := Nat.ne_of_lt (Heap.lt_size hx)
  refine wpAny_bind (wpAny_pure (wpAny_bind (instanceDict_exc hx (looks_clsIn X hc) hd' ?_)))
  show wpAny _ _ (storeInDict hp.objs.size (.str "thing" tk) "thing" v) _ _ _
  have grown : (hp.push (dictOf [] 0)).get? x = some (excO C t0) := Heap.get?_push_of_some _ hx
  refine store_in_new ⟨_, #[], _, (Heap.get?_update_ne _ _ _ _ hxs.symm).trans (Heap.get?_push_at rfl rfl), rfl, fun e he => absurd he (by simp), fun _ => rfl⟩ fun h' tk' hn' hs => ?_
  refine hq h' tk' hp.objs.size (fun b o hb ho => ?_) (Nat.le_refl _) hxs.symm ((hs.2 x hxs).trans (Heap.get?_update_self _ grown rfl)) hn'
  rw [hs.2 b (Nat.ne_of_lt (Heap.lt_size ho)), Heap.get?_update_ne _ _ _ _ hb]
  exact Heap.get?_push_of_some _ ho
theorem init_runs (T : Txt K mg nm C fI) {x t0 : Addr} {v : Value} (X : K.In s.heap) (hlim : s.heap.NoLimit) (hx : s.heap.get? x = some (excO C t0)) (hroom : A.depth < recursionLimit)
    (hq : ∀ h' tk dx, (∀ b o, b ≠ x → s.heap.get? b = some o → h'.get? b = some o) → h'.get? x = some { cls := .ref C, dict := some dx, data := .fields #[.ref t0, .none, .none, .none, .bool false, .none] } → s.heap.objs.size ≤ dx → dx ≠ x →
      h'.Ns1 dx (fun y => if y = "thing" then some v else none) → R (.ok (.ret .none)) { s with heap := h', toks := tk }) :
    codeAny (model prog w) A (.call (.ref fI) ⟨[.ref x, v], []⟩) R s := by
  obtain ⟨oc, od, qual, par, sc, dV, kV, doc, pm, an, cdv, ct, osl, q1, q2, q3, q4, ho, hcd, k1, k2, k3, hsc, hbd⟩ := T.fn
  obtain ⟨kd, nms, ig, ic, mr⟩ := sc
  dsimp only at k1 k2 k3 hsc
  subst k1 k2 k3 hsc
  refine Att.call_fn (binds := [("self", .ref x), ("thing", v)]) X hlim ho hcd hroom (BindsTo.of_eq (hbd [.ref x, v] rfl)) rfl (fun s1 ic => ?_) rfl rfl rfl
  obtain ⟨h1, tk1, rfl⟩ := ic.toInCall.same
  have kp : ∀ b o, s.heap.get? b = some o → h1.get? b = some o := ic.toInCall.keep
  have hn := ic.toInCall.ns
  have grow : s.heap.objs.size < h1.objs.size := hn.lt
  have X1 : K.In h1 := X.keeps kp
  refine wpAny_execs_cons (plainObj_wpAny_Assign_Attribute ?_)
  refine wpAny_Name (wpAny_loadName_local (v := v) rfl rfl hn rfl ?_) (by decide)
  refine wpAny_Name (wpAny_loadName_local (v := .ref x) rfl rfl hn rfl ?_) (by decide)
  refine set_plain X1 (ox := excO C t0) (od := none) ⟨kp _ _ hx, rfl, rfl, trivial⟩ T.sa ?_
  refine first_store (s := { s with heap := h1, toks := _ }) T X1 (kp _ _ hx) fun h3 tk3 dx k3 dn dne hx3 hn3 => ?_
  exact wpAny_execs_nil (hq h3 tk3 dx (fun b o hb e => k3 b o hb (kp b o e)) hx3 (Nat.le_of_lt (Nat.lt_of_lt_of_le grow dn)) dne hn3)
theorem makes (T : Txt K mg nm C fI) {v : Value} (X : K.In s.heap) (hlim : s.heap.NoLimit) (hroom : A.depth + 1 < recursionLimit)
    (hq : ∀ h' tk e d, Made s.heap h' e C d v → R (.ok (.ret (.ref e))) { s with heap := h', toks := tk }) : codeAny (model prog w) A (.call (.ref C) ⟨[v], []⟩) R s := by
  obtain ⟨nm', N, qn, bs, bm, hdct, sn, sub, ab, col, dd, k0, k1, k2, k3, k5, hC, hT⟩ := excInit_of X T.mkr
  obtain ⟨hp, g, dr, tk, os⟩ := s
  have kp : ∀ b o, hp.get? b = some o → ((hp.push (kdv_tup [v])).push (excO C hp.objs.size)).get? b = some o := fun b o e => Heap.get?_push_of_some _ (Heap.get?_push_of_some _ e)
  have at1 : ((hp.push (kdv_tup [v])).push (excO C hp.objs.size)).get? (hp.objs.size + 1) = some (excO C hp.objs.size) := by heap_get
  have one : [v].length ≤ sizeLine := by
    rw [sizeLine_eq]
    exact (by decide : 1 ≤ 16777216)
  refine call_own F.excBase_Exception hT hC (looks_findIn X T.iC) (fun self => bind_fn X self T.tI) one ?_
  refine init_runs (s := ⟨(hp.push (kdv_tup [v])).push (excO C hp.objs.size), g, dr, tk, os⟩) T (X.keeps kp) (hlim.keeps kp) at1 (show A.depth + 1 < recursionLimit from hroom) fun h' tk' dx k' hx dn dne hns => ?_
  have old : ∀ b o, hp.get? b = some o → h'.get? b = some o := fun b o e => k' b o (Nat.ne_of_lt (Nat.lt_succ_of_lt (Heap.lt_size e))) (kp b o e)
  have far : hp.objs.size + 1 + 1 ≤ dx := by
    have q := dn
    first
      | (rw [Heap.size_push, Heap.size_push] at q; exact q)
      | exact q
  exact ⟨rfl, hq h' tk' (hp.objs.size + 1) dx ⟨old, Nat.le_succ _, ⟨_, _, hx, rfl, rfl, rfl, rfl⟩, (by show hp.objs.size ≤ dx; omega), dne, hns⟩⟩
end
end XB
namespace DL
open PySem PySem.Spec L2
variable [TabsOf]
variable {X : Cx} {W : WX} {gd : Bool}
theorem rel_thing {v : V} {v' : Value} (r : RelV v v') (f : Str) : RelO (List.lookup f [(("thing" : Str), v)]) (if f = "thing" then some v' else none) := by
  by_cases hw : f = "thing"
  · subst hw
    rw [if_pos rfl, show List.lookup ("thing" : Str) [(("thing" : Str), v)] = some v by simp [List.lookup]]
    exact r
  · have e : (f == ("thing" : Str)) = false := by simpa using hw
    rw [if_neg hw, show List.lookup f [(("thing" : Str), v)] = none by simp [List.lookup, e]]
    trivial
/-- C(e) -/
def tMkX (C : Addr) (ta : TA) : L2.St → Hp → XK → Prop := fun σ H Q => ta σ H fun vs H1 => ∃ v, vs = [v] ∧ ∀ d, H1 d = none → Q (.ref C) (some d) (upd H1 d (.xd [(("thing" : Str), v)]))
theorem pmk_x {nm : Str} {C fI : Addr} {a : Expr} {ta : TA} {p pos : Pos} {k : Nat} (T : XB.Txt X.K X.mg nm C fI) (hr : Room k X.A) (ha : PA X [a] ta) (hg : Gl X nm) (hdb : (nm == ("__debug__" : Str)) = false := by decide)
    (he : starEach (a :: []) X.env = (false, eval a X.env) :: starEach [] X.env := by rfl) (hpl : (backTo pos (starEach [] X.env)).any (·.1) = false := by rfl) :
    PMk X (.Call (.Name nm p) [a] [] pos) (tMkX C ta) := by
  intro pins s σ H Q I h
  refine wpAny_Call_Name_kw (ld_glob I hg T.gC ?_ hdb)
  refine PySem.W.callWith_K (h₀ := X.base) I.ok.mod.kin T.kC (thn (ha.run pos pins s σ H _ I h) ?_) he hpl
  rintro us s1 ⟨vs, H1, I1, r1, v, rfl, q1⟩
  refine ⟨I1.kIn, ?_⟩
  obtain ⟨v', rfl, rv⟩ := vals1 r1
  have hlim := I1.nolimit
  obtain ⟨hp, g, dr, tk, os⟩ := s1
  refine wpAny_call (XB.makes T I1.kIn hlim (by have := hr.dp; omega) fun h' tk' e d mk => ?_)
  obtain ⟨oe, fv, hoe, hc, hd, hdat, h1⟩ := mk.obj
  obtain ⟨G, g1, g2⟩ := restrict h' fun b => decide (b ≠ e)
  have gk : ∀ b, b ≠ e → G.get? b = h'.get? b := fun b hb => g1 b (decide_eq_true hb)
  have ge : G.get? e = none := g2 e (by simp)
  have old : ∀ b o, hp.get? b = some o → G.get? b = some o := fun b o q => by
    rw [gk b (Nat.ne_of_lt (Nat.lt_of_lt_of_le (Heap.lt_size q) mk.new))]
    exact mk.keep b o q
  have ob : ObjOk X.prog X.w (upd H1 d (.xd [(("thing" : Str), v)])) G d (.xd [(("thing" : Str), v)]) := ⟨_, mk.ns.at (fun o q => (gk d mk.dne).trans q), fun f => rel_thing rv f⟩
  have J : L2.Inv X pins σ (upd H1 d (.xd [(("thing" : Str), v)])) ⟨G, g, dr, tk', os⟩ := I1.laid (t' := tk') old mk.dbig ob
  refine ⟨e, oe, fv, ⟨G, g, dr, tk', os⟩, _, .ref C, some d, rfl, J, fun b o q => ?_, ge, hoe, ⟨hc, hd⟩, hdat, h1, ?_, rfl, I1.bare, raises_own T.sb T.ty, q1 d (I1.hok.fresh mk.dbig)⟩
  · by_cases hb : b = e
    · have q' : G.get? b = some o := q
      rw [hb, ge] at q'
      cases q'
    · exact (gk b hb).symm.trans q
  · rw [upd_ne (Ne.symm mk.dne)]
    exact I1.hok.fresh mk.new
/-- raise nm(e) -/
def sRaise (nm : Str) (m : Env → Mem → Res D) : SD := fun ρ M => liftR (m ρ M) ρ fun d M' => .exc ⟨nm, d⟩ ρ M'
theorem ds_raise {nm : Str} {C fI : Addr} {a : Expr} {m : Env → Mem → Res D} {p pos pos2 : Pos} {k : Nat} (hc : X.calm = true) (T : XB.Txt X.K X.mg nm C fI) (hr : Room k X.A) (tk : Takes X W) (ha : PE X a (tE X W m)) (hg : Gl X nm) (hdb : (nm == ("__debug__" : Str)) = false := by decide)
    (he : starEach (a :: []) X.env = (false, eval a X.env) :: starEach [] X.env := by rfl) (hpl : (backTo pos (starEach [] X.env)).any (·.1) = false := by rfl) :
    PS X (.Raise (some (.Call (.Name nm p) [a] [] pos)) none pos2) (tS X W (sRaise nm m)) := PS.imp (ps_raise hc tk (pmk_x T hr (da_cons ha da_nil he) hg hdb he hpl)) fun Dn σ H ⟨w, ρ, hH, wr, sl, q⟩ => by
  subst hH
  unfold tMkX
  refine tR_stepS (D := Dn) (k := fun ds M' => match ds with | [d] => .exc ⟨nm, d⟩ ρ M' | _ => .bad) wr sl ?_ fun w1 ds vs ext wr1 sl1 r q1 => ?_
  · unfold sRaise at q
    unfold aCons aNil
    cases e : m ρ w.M with
    | ok d M' =>
      rw [e] at q
      exact q
    | exc y M' =>
      rw [e] at q
      exact q
    | bad =>
      rw [e] at q
      exact q
  · match ds, q1 with
    | [], q1 => exact q1.elim
    | [d], q1 =>
      obtain ⟨v, rfl, r1⟩ := repL1 r
      refine ⟨v, rfl, fun x hx => ?_⟩
      obtain ⟨ext2, wr2, hv⟩ := lay wr1 hx (.xd [(("thing" : Str), v)]) (no_tbl trivial)
      exact q1 _ σ C x v ext2 rfl wr2 (ext2.slots sl1) T.gC hv (ext2.rp r1)
    | _ :: _ :: _, q1 => exact q1.elim
end DL
namespace DL
open PySem PySem.Spec L2
variable [TabsOf]
variable {X : Cx} {W : WX} {gd : Bool}

/-! ### a suite that holds an exception: e.thing, isinstance(e, C) -/
def thingD (a dd : Addr) : G1 := fun x M => match x with
  | .err a' dd' _ d => if a' = a ∧ dd' = dd then .ok d M else .bad
  | _ => .bad
theorem d_thing {a dd C : Addr} {oe : Obj} {pn : List (Addr × Obj)} {e : Expr} {m : Env → Mem → Res D} {pos : Pos} (T : XfC X.K C) (hno : PySem.W.findIn X.K (.ref C) "thing" = some none)
    (hz : Zc (.ref C) (some dd) oe) (hf : ∃ vs, oe.data = .fields vs) (he : PE (X.suite a ((a, oe) :: pn)) e (tE X W m)) (hb : attributeBase e "thing" X.env (eval e X.env) = eval e X.env := by rfl) :
    PE (X.suite a ((a, oe) :: pn)) (.Attribute e "thing" pos) (tE X W (e1 (thingD a dd) m)) := PE.imp (pe_xf T hno hz hf he hb) fun σ H Q ⟨w, ρ, hH, wr, sl, q⟩ => by
  subst hH
  unfold tXf
  refine tR_step wr sl q fun w1 x vx ext1 wr1 rx q1 => ?_
  cases x with
  | err a' dd' nm d =>
    simp only [Rp, Rep] at rx
    obtain ⟨rfl, u, h1, h2⟩ := rx
    obtain ⟨⟨e1, e2⟩, q2⟩ := aft_if (show Aft X.K X.mg w1 (if a' = a ∧ dd' = dd then .ok d w1.M else .bad) _ _ from q1)
    subst e1
    subst e2
    exact ⟨rfl, rfl, _, _, u, rfl, (vis_some.mp h1).1, by simp [List.lookup], Aft.here q2 wr1 u h2⟩
  | _ => exact q1.elim
structure KitE (K : PySem.W.Frag) (C : Addr) : Prop where
  cl : (PySem.W.clsIn K C).isSome = true
  ga : PySem.W.findIn K (.ref C) "__getattribute__" = some (some (.builtin "BaseException.__getattribute__"))
  gg : PySem.W.findIn K (.ref C) "__getattr__" = some none
  sb : PySem.W.subIn K (.ref C) (.type "BaseException") = some true
  ac : PySem.W.findIn K (.ref C) "__class__" = some (some (.builtin "object.__class__"))
  sp : PySem.W.specialIn K (.builtin "object.__class__") "__get__" = some (some (.builtin "getset_descriptor.__get__"))
  tk : PySem.W.takesIn K (.builtin "object.__class__") = some true
  mr : PySem.W.mroIn K C (.type "object") = some true
def rIsX (K : PySem.W.Frag) (C a dd : Addr) : List V → Hp → VK → Prop := fun xs H Q => ∃ (q : Addr) (fs : List (Str × V)) (b : Bool), xs = [.ref a, .ref q] ∧ H dd = some (.xd fs) ∧ PySem.W.kitOne K (.ref C) (.ref q) = some b ∧ Q (.bl b) H
theorem call_isX {a C dd : Addr} {oe : Obj} {pn : List (Addr × Obj)} (T : KitE X.K C) (hz : Zc (.ref C) (some dd) oe) (hf : ∃ vs, oe.data = .fields vs) : CallR (X.suite a ((a, oe) :: pn)) (.builtin "isinstance") (rIsX X.K C a dd) := by
  intro pins s σ H xs us Q I r h
  obtain ⟨q, fs, b, rfl, hdd, e, hq⟩ := h
  obtain ⟨u1, u2, rfl, r1, r2⟩ : ∃ u1 u2, us = [u1, u2] ∧ RelV (.ref a) u1 ∧ RelV (.ref q) u2 := by
    cases r with
    | cons ra rr =>
      cases rr with
      | cons rb rr =>
        cases rr
        exact ⟨_, _, rfl, ra, rb⟩
  obtain rfl : u1 = Value.ref a := r1
  obtain rfl : u2 = Value.ref q := r2
  obtain ⟨ha, _⟩ := I.pin (a, oe) (List.mem_append_left _ List.mem_cons_self)
  obtain ⟨vs, hd⟩ := hf
  obtain ⟨mA, hns, _⟩ : ObjOk X.prog X.w H s.heap dd (.xd fs) := I.hok dd _ hdd
  obtain ⟨od, ho, _⟩ := lookIn_ns hns
  have J : PySem.W.InstAt s.heap a oe C (some od) := ⟨ha, hz.1, by unfold PySem.W.notCls; rw [hd] <;> rfl, by rw [hz.2]; exact ho⟩
  exact PySem.W.kia_one (PySem.W.kitx_exc T.cl T.ga T.gg T.sb T.ac T.sp T.tk T.mr) I.kIn J e (fun z => nomatch z) fun tk => ⟨.bl b, H, I.kept (t' := tk) fun _ _ z => z, rfl, hq⟩
/-- what isinstance says, by the names of the classes -/
def isXD (is : Addr → Option Bool) (a dd : Addr) : GL := fun xs M => match xs with
  | [.err a' dd' _ _, .adr q] => if a' = a ∧ dd' = dd then (match is q with
    | some b => .ok (.bl b) M
    | none => .bad) else .bad
  | _ => .bad
theorem f_isX {a C dd : Addr} {oe : Obj} {pn : List (Addr × Obj)} {is : Addr → Option Bool} (T : KitE X.K C) (hz : Zc (.ref C) (some dd) oe) (hf : ∃ vs, oe.data = .fields vs) (his : ∀ q b, is q = some b → PySem.W.kitOne X.K (.ref C) (.ref q) = some b) :
    CallD (X.suite a ((a, oe) :: pn)) (.builtin "isinstance") (isXD is a dd) := ⟨_, call_isX T hz hf, fun w xs vs Q E wr rx q => by
  unfold isXD at q
  split at q
  · rename_i a' dd' nm d qq
    obtain ⟨v, u, rfl, h1, h2⟩ := repL2 rx
    obtain ⟨⟨e1, e2⟩, q2⟩ := aft_if q
    subst e1
    subst e2
    simp only [Rp, Rep] at h1 h2
    obtain ⟨rfl, u', h3, h4⟩ := h1
    subst h2
    cases eb : is qq with
    | some b =>
      rw [eb] at q2
      exact ⟨qq, _, b, rfl, (vis_some.mp h3).1, his _ _ eb, Aft.here q2 wr _ rp_bl⟩
    | none =>
      rw [eb] at q2
      exact q2.elim
  · exact q.elim⟩

/-! ### try .. except C as e, the suite returning a value -/
def sTryV (i : Nat) (hk : Exn → Option D) (b : SD) : SD := fun ρ M => match b ρ M with
  | .exc e ρ' M' => (match hk e with
    | some d => if i < ρ'.length then .rt d M' else .bad
    | none => .bad)
  | r => r
theorem ds_tryV {x n : Str} {Cc : Addr} {i : Nat} {body suite : List Stmt} {b₀ : Stmt} {np pos pos' : Pos} {b : SD} {bs : Addr → Addr → Str → SD} {hk : Exn → Option D}
    (hs : X.stack = X.env :: X.outer) (hf : X.env.frame = some X.env.locals) (hN : X.N.Nodup) (hi : X.N[i]? = some n) (hln : X.env.kindOf n = some .local) (hc : Names X x (.ref Cc)) (tk : Takes X W)
    (hb : ∀ (W : WX) (pn : List (Addr × Obj)) (xe : Value → Shared → Prop), Takes (X.tr pn xe) W → PassesOwn (model X.prog X.w) X.A X.env xe → PSs (X.tr pn xe) body (tS X W b))
    (cat : ∀ e d C, hk e = some d → X.mg e.cls = some (.ref C) → PySem.W.exmOne X.K (.ref C) (.ref Cc) = some true)
    (hsu : ∀ nm C d0 d, hk ⟨nm, d0⟩ = some d → X.mg nm = some (.ref C) → ∀ (a dd : Addr) (oe : Obj) (pn : List (Addr × Obj)), Zc (.ref C) (some dd) oe → (∃ vs, oe.data = .fields vs) → PSs (X.suite a ((a, oe) :: pn)) (b₀ :: suite) (tS X WF (bs a dd nm)))
    (hbs : ∀ (a dd : Addr) (nm : Str) (d0 d : D) (ρ : Env) (M : Mem), hk ⟨nm, d0⟩ = some d → i < ρ.length → bs a dd nm (ρ.set i (some (.err a dd nm d0))) M = .rt d M) :
    PS X (.Try body [.ExceptHandler (some (.Name x np)) (some n) (b₀ :: suite) pos'] [] [] pos) (tS X W (sTryV i hk b)) := by
  refine PS.imp (ps_try_as (tb := fun W => tS X W b) (ts := fun a cls d D σ H => ∃ nm C dd d0 r, cls = .ref C ∧ d = some dd ∧ X.mg nm = some (.ref C) ∧ hk ⟨nm, d0⟩ = some r ∧ tS X WF (bs a dd nm) D σ H) hs hf hN hi hln hc tk hb fun a oe cls d pn hz hv => ⟨fun pins s σ H D I h => ?_⟩) fun Dn σ H ⟨w, ρ, hH, wr, sl, q⟩ => ?_
  · obtain ⟨nm, C, dd, d0, r, rfl, rfl, hm, hr, h⟩ := h
    exact (hsu nm C d0 r hr hm a dd oe pn hz hv).run pins s σ H D I h
  · subst hH
    refine ⟨w, ρ, rfl, wr, sl, ?_⟩
    unfold sTryV at q
    cases e : b ρ w.M with
    | exc y ρ' M' =>
      rw [e] at q
      dsimp only at q
      cases eh : hk y with
      | none =>
        rw [eh] at q
        exact q.elim
      | some d =>
        rw [eh] at q
        dsimp only at q
        by_cases hl : i < ρ'.length
        rotate_left 1
        · rw [if_neg hl] at q
          exact q.elim
        rw [if_pos hl] at q
        intro w' σ' C dx v ext hM wr' sl' hm hd r
        refine ⟨true, cat y d C eh hm, fun _ a ha => ?_, fun z => nomatch z⟩
        have se : (⟨y.cls, y.thing⟩ : Exn) = y := rfl
        refine ⟨y.cls, C, dx, y.thing, d, rfl, rfl, hm, eh, w', ρ'.set i (some (.err a dx y.cls y.thing)), rfl, wr', sl'.set i (by simp only [Rp, Rep]; exact ⟨trivial, v, hd, r⟩), ?_⟩
        rw [hbs a dx y.cls y.thing d ρ' w'.M eh hl]
        intro w2 v2 ext2 hM2 wr2 r2
        exact q w2 v2 (ext.trans ext2) (hM2.trans hM) wr2 r2
    | nx ρ' M' =>
      rw [e] at q
      exact q
    | rt d M' =>
      rw [e] at q
      exact q
    | bk ρ' M' =>
      rw [e] at q
      exact q
    | ct ρ' M' =>
      rw [e] at q
      exact q
    | bad =>
      rw [e] at q
      exact q
end DL
namespace DL
open PySem PySem.Spec L2 LamX
open PyProof.Rows (envOfC)
variable [TabsOf]
variable {X : Cx} {W : WX}

/-! ### a lambda handed to a def that calls it -/
open Classical in
noncomputable def eThunk (i : Nat) (L : D) (th : Mem → Res D) : Env → Mem → Res D := fun ρ M => if ρ[i]? = some (some L) then th M else .bad
def flatD (ρ : Env) : List D := ρ.map fun o => o.getD .non
def flatV (ρ : Env) (σ : L2.St) : List V := List.zipWith (fun (o : Option D) (v : Option V) => if o.isSome then v.getD .non else .non) ρ σ
theorem flat_rel {K : PySem.W.Frag} {w : Vw} {ρ : Env} {σ : L2.St} (s : Slots K w ρ σ) : RpL K w (flatD ρ) (flatV ρ σ) := by
  refine repL_iff.mpr ⟨by simp [flatD, flatV, s.len], fun i d v e1 e2 => ?_⟩
  unfold flatD at e1
  unfold flatV at e2
  rw [List.getElem?_map] at e1
  rw [List.getElem?_zipWith] at e2
  cases eo : ρ[i]? with
  | none =>
    rw [eo] at e1
    cases e1
  | some o =>
    rw [eo] at e1 e2
    have e1' : o.getD .non = d := Option.some.inj e1
    cases es : σ[i]? with
    | none =>
      rw [es] at e2
      cases e2
    | some u =>
      rw [es] at e2
      have e2' : (if o.isSome then u.getD .non else .non) = v := Option.some.inj e2
      cases o with
      | none =>
        rw [← e1', ← e2']
        show Rep K w.al w.vis .non .non
        simp only [Rep]
      | some d' =>
        obtain ⟨v', h1, h2⟩ := s.at_ i d' eo
        rw [es] at h1
        cases h1
        rw [← e1', ← e2']
        exact h2
theorem flat_slots {K : PySem.W.Frag} {w w' : Vw} {ρ : Env} {σ : L2.St} (s : Slots K w ρ σ) (h : RpL K w' (flatD ρ) (flatV ρ σ)) : Slots K w' ρ σ := by
  refine ⟨s.len, fun i d e => ?_⟩
  obtain ⟨v, h1, _⟩ := s.at_ i d e
  refine ⟨v, h1, (repL_iff.mp h).2 i d v ?_ ?_⟩
  · unfold flatD
    rw [List.getElem?_map, e]
    rfl
  · unfold flatV
    rw [List.getElem?_zipWith, e, h1]
    rfl
/-- the heap after the making of a lambda -/
theorem ext_tab {K : PySem.W.Frag} {w : Vw} (wr : WR K w) {H1 : Hp} (e : ExtN w.H H1) (t : Tabs TabsOf.T H1) : Ext w { w with H := H1 } ∧ WR K { w with H := H1 } := by
  have nt : ∀ a, w.H a ≠ none → (∀ ps, w.H a ≠ some (.tbl ps)) → H1 a = w.H a := fun a h1 h2 => by
    cases q : w.H a with
    | none => exact absurd q h1
    | some o => exact e a o q fun ps z => h2 ps (by rw [q, z])
  have hS : ∀ a ∈ w.S, H1 a = w.H a := fun a ha => nt a (wr.hs a ha) (wr.hst a ha)
  have hA : ∀ a ∈ w.al, H1 a = w.H a := fun a ha => nt a (wr.al0 a ha) (wr.alt a ha)
  have hsub : Sub w.vis ({ w with H := H1 } : Vw).vis := fun a u h => by
    obtain ⟨h1, h2⟩ := vis_some.mp h
    have h3 : H1 a = some u := e a u h1 fun ps z => h2 (.inr (.inr ⟨ps, by rw [h1, z]⟩))
    refine vis_some.mpr ⟨h3, ?_⟩
    rintro (z | z | ⟨ps, z⟩)
    · exact h2 (.inl z)
    · exact h2 (.inr (.inl z))
    · have z' : H1 a = some (.tbl ps) := z
      rw [h3] at z'
      exact h2 (.inr (.inr ⟨ps, h1.trans z'⟩))
  refine ⟨⟨List.prefix_refl _, hsub, rfl, hS, rfl⟩, ⟨wr.len, wr.nd, fun a ha z => wr.hs a ha ((hS a ha).symm.trans z), fun a ha ps z => wr.hst a ha ps ((hS a ha).symm.trans z), fun a ha ps z => wr.hse a ha ps ((hS a ha).symm.trans z), wr.dj, fun n a u e1 e2 => ?_, fun a ha z => wr.al0 a ha ((hA a ha).symm.trans z), t, fun a ha ps z => wr.alt a ha ps ((hA a ha).symm.trans z), wr.dja⟩⟩
  show RepO K w.al _ (H1 a) u
  rw [hA a (List.mem_of_getElem? e1)]
  exact (wr.obj n a u e1 e2).mono (List.prefix_refl _) hsub
/-- the thunk is called: x(), in the def that got the lambda -/
theorem lam_acts {pins : List (Addr × Obj)} {σ : L2.St} {H : Hp} {s : Shared} {Eg : XK} {Ng : List Str} {qg a : Str} {sg scope : Scope} {g f c' : Addr} {cdg pm ctv : Value} {params : Arguments} {body : Expr} {k i : Nat} {pn : List (Addr × Obj)} {xe : Value → Shared → Prop} {p1 p2 : Pos}
    {ρ : Env} {w0 : Vw} {m : Env → Mem → Res D} (I : L2.Inv X pins σ H s) (LS : LamS X.env.scope scope) (hf : s.heap.get? f = some (PySem.W.kla_obj "<lambda>" (X.env.qual ++ "<lambda>") params body scope (cloFrom X.env.cells scope.names []) pm c' ctv)) (hfn : H f = none) (hfr : f ∉ frs X.stack)
    (bnd : bindArgs (PySem.W.kla_fn "<lambda>" (X.env.qual ++ "<lambda>") params body scope (cloFrom X.env.cells scope.names []) pm (.ref c') ctv) ⟨[], []⟩ = pure [])
    (tk : Takes ((cxOf (L2.CX X.prog X.w) X.prog X.w X.K X.mg X.base Ng qg sg g cdg X.A X.stack s H Eg).tr pn xe) W) (room : Room (k + 1) (X.A.deeper (envOfC qg sg s.heap.objs.size g cdg)))
    (runs : ∀ (A : Around) (outer : List PySem.Env) (s : Shared) (H : Hp) (E : XK), Room k (A.deeper (lamEnv X scope s.heap.objs.size f c')) → PE (lamCx X A outer s H E scope f c') body (tE X (fun cls d _ H => E cls d H) m)) (sl0 : Slots X.K w0 ρ σ)
    (hN : Ng[i]? = some a) (hv : Vis sg a) (hd : (a == ("__debug__" : Str)) = false) (hcd : (a == ("__classdict__" : Str)) = false) :
    PE ((cxOf (L2.CX X.prog X.w) X.prog X.w X.K X.mg X.base Ng qg sg g cdg X.A X.stack s H Eg).tr pn xe) (.Call (.Name a p1) [] [] p2) (tE X W (eThunk i (.lam f c' (X.env.qual ++ "<lambda>") (flatD ρ) (flatV ρ σ)) (m ρ))) := by
  refine ⟨fun pinsZ sZ σZ HZ Q IZ h => ?_⟩
  obtain ⟨w, ρZ, rfl, wr, slZ, q⟩ := h
  unfold eThunk at q
  by_cases here : ρZ[i]? = some (some (.lam f c' (X.env.qual ++ "<lambda>") (flatD ρ) (flatV ρ σ)))
  rotate_left 1
  · rw [if_neg here] at q
    exact q.elim
  rw [if_pos here] at q
  obtain ⟨v, hσ, rv⟩ := slZ.at_ i _ here
  simp only [Rp, Rep] at rv
  obtain ⟨rfl, hvis, hcap⟩ := rv
  have hc := (vis_some.mp hvis).1
  have slw : Slots X.K w ρ σ := flat_slots sl0 hcap
  refine wpAny_Call_Name_kw (thn ((pe_var (pos := p1) (i := i) hN hv hd hcd).run pinsZ sZ σZ w.H (fun v H1 => v = .ref f ∧ H1 = w.H) IZ ⟨.ref f, hσ, rfl, rfl⟩) fun u s1 z => ?_)
  obtain ⟨v1, H1, I1, r1, e1, e2⟩ := z
  subst e1
  subst e2
  obtain rfl : u = Value.ref f := r1
  have there := I1.base.keep f _ hf hfn hfr (fun z => nomatch (show f ∈ ([] : List Addr) from z))
  refine PySem.W.callWith_F0 ⟨_, _, _, _, there⟩ ?_
  obtain ⟨⟨oc, us, t, o1, o2, o3⟩, _, _⟩ := I1.hok c' _ hc
  have called : codeAny (model X.prog X.w) (X.A.deeper (envOfC qg sg s.heap.objs.size g cdg)) (.call (.ref f) ⟨[], []⟩) (CR (L2.CX X.prog X.w) (envOfC qg sg s.heap.objs.size g cdg :: X.stack) X.prog X.w w.H s1 Q (WE W σZ)) s1 := by
    refine PySem.W.kla_callFunE room.depth there rfl LS.co LS.gen rfl ⟨c', oc, us, t, rfl, o1, o2, o3⟩ ?_
    rw [bnd]
    refine wpAny_pure (wpAny_newFunctionEnv (fun y hy => (LS.own y hy).2) (fun y hy => absurd hy (by simp)) (fun h₁ n1 n2 => ⟨I1.nolimit.fresh _ n2, ?_⟩) LS.kind)
    show codeAny _ _ (.expr body (lamEnv X scope s1.heap.objs.size f c')) _ _
    have start := lam_start2 (E := WE W σZ) (c' := c') (f := f) (tk := s1.toks + ([] : List (Str × Value)).length) I LS I1.env0 room.hd I1.base n1 fun b o e => n2.extBut b o (Nat.ne_of_lt (Heap.lt_size e)) (Heap.get?_push_of_some _ e)
    refine PySem.W.kla_codeExpr (wpAny_mono ((runs _ _ s1 w.H (WE W σZ) (room.deeper _)).run [] _ _ w.H Q start ⟨w, ρ, rfl, wr, slw, q⟩) (fun v s' z => ?_) fun e s' z => z)
    obtain ⟨v', H', J, r', q'⟩ := z
    exact ⟨v', H', J.os, J.bare, J.base, J.hok, r', q'⟩
  refine wpAny_call (codeAny_mono called fun out s' z => ?_)
  cases out with
  | error e => exact passAt tk σZ pinsZ w.H s1 e s' I1 z
  | ok fl =>
    cases fl with
    | ret u => exact I1.after z
    | next => exact (show False from z).elim
    | brk => exact (show False from z).elim
    | cont => exact (show False from z).elim
/-- a def that gets a lambda of no parameters: G, what it makes of the thunk -/
structure LamDef (P : Program) (wd : World) (K : PySem.W.Frag) (mg : Str → Option Value) (base : Heap) (x a : Str) (k : Nat) (G : (Mem → Res D) → Mem → Res D) : Prop where
  ex : ∃ (g : Addr) (oc : Value) (od : Option Addr) (pg : Arguments) (bg : List Stmt) (sg : Scope) (dV kV doc pm : Value) (an : Option Addr) (cdv ct : Value) (osl : Array (Option Value)) (Ng : List Str) (b : D → (Mem → Res D) → SD),
    mg x = some (.ref g) ∧ PySem.W.keepIn K (.ref g) = true ∧ K.lookup g = some ⟨oc, od, .func (PySem.W.fnOf x x pg bg sg dV kV doc pm an cdv ct), osl⟩ ∧ PySem.W.codeIn K cdv x = true ∧ L2.Binds K (PySem.W.fnOf x x pg bg sg dV kV doc pm an cdv ct) [a] [] ∧ FnScope Ng [a] sg ∧ Ng[0]? = some a ∧ Vis sg a ∧
      (a == ("__debug__" : Str)) = false ∧ (a == ("__classdict__" : Str)) = false ∧
      (∀ (A : Around) (fr : List PySem.Env) (s : Shared) (H : Hp) (E : XK) (L : D) (th : Mem → Res D),
        (∀ (W : WX) (pn : List (Addr × Obj)) (xe : Value → Shared → Prop) (p1 p2 : Pos), Takes ((cxOf (L2.CX P wd) P wd K mg base Ng x sg g cdv A fr s H E).tr pn xe) W → PE ((cxOf (L2.CX P wd) P wd K mg base Ng x sg g cdv A fr s H E).tr pn xe) (.Call (.Name a p1) [] [] p2) (tE (cxOf (L2.CX P wd) P wd K mg base Ng x sg g cdv A fr s H E) W (eThunk 0 L th))) →
        Takes (cxOf (L2.CX P wd) P wd K mg base Ng x sg g cdv A fr s H E) (fun cls d _ H => E cls d H) →
        PSs (cxOf (L2.CX P wd) P wd K mg base Ng x sg g cdv A fr s H E) bg (tS (cxOf (L2.CX P wd) P wd K mg base Ng x sg g cdv A fr s H E) (fun cls d _ H => E cls d H) (b L th))) ∧
      ∀ L th M, runB Ng.length (b L th) [L] M = G th M
def eLam (G : (Mem → Res D) → Mem → Res D) (m : Env → Mem → Res D) : Env → Mem → Res D := fun ρ M => G (m ρ) M
theorem d_lamcall {G : (Mem → Res D) → Mem → Res D} {x a : Str} {c P : Addr} {k : Nat} {params : Arguments} {body : Expr} {scope : Scope} {m : Env → Mem → Res D} {p lpos pos : Pos} (F : LamDef X.prog X.w X.K X.mg X.base x a k G) (room : Room (k + 2) X.A) (tk : Takes X W) (hg : Gl X x)
    (TB : TabB X.base X.mg c P) (hcode : X.env.code = .ref c) (hmT : (P, X.env.qual ++ "<lambda>") ∈ TabsOf.T) (hu : ∀ p ∈ TabsOf.T, p.1 = P → p.2 = X.env.qual ++ "<lambda>") (LS : LamS X.env.scope scope) (hdef : defaultsOf params X.env = ([], []))
    (bnd : ∀ (q : Str) (cl : List (Str × Addr)) (pm cv ctv : Value), bindArgs (PySem.W.kla_fn "<lambda>" q params body scope cl pm cv ctv) ⟨[], []⟩ = pure [])
    (runs : ∀ (A : Around) (outer : List PySem.Env) (s : Shared) (H : Hp) (E : XK) (f c' : Addr), Room k (A.deeper (lamEnv X scope s.heap.objs.size f c')) → Takes (lamCx X A outer s H E scope f c') (fun cls d _ H => E cls d H) → PE (lamCx X A outer s H E scope f c') body (tE X (fun cls d _ H => E cls d H) m))
    (hdb : (x == ("__debug__" : Str)) = false := by decide) : PE X (.Call (.Name x p) [.Lambda params body scope lpos] [] pos) (tE X W (eLam G m)) := by
  refine ⟨fun pins s σ H Q I h => ?_⟩
  obtain ⟨w, ρ, rfl, wr, sl, q⟩ := h
  obtain ⟨g, oc, od, pg, bg, sg, dV, kV, doc, pm, an, cdv, ct, osl, Ng, b, h1, h2, lk, hcd, hb, Sg, hN, hva, a1, a2, hbody, hG⟩ := F.ex
  refine wpAny_Call_Name_kw (ld_glob I hg h1 ?_ hdb)
  refine PySem.W.callWith_K (h₀ := X.base) I.ok.mod.kin h2 ?_ (by rfl) (by rfl)
  show wpAny _ _ (spliced ((false, eval (.Lambda params body scope lpos) X.env) :: backTo pos (starEach [] X.env))) _ _ s
  refine Calls.spliced_cons (lam_make2 I TB hcode hmT hu wr.tabs hdef (LS.has I.ok) fun f c' pm' ctv H1 s' I1 eN T1 hf hfn hfr hco => ?_)
  refine Calls.spliced_nil ⟨I1.kIn, ?_⟩
  obtain ⟨ext, wr1⟩ := ext_tab wr eN T1
  have vco : ({ w with H := H1 } : Vw).vis c' = some (CodeO c' (X.env.qual ++ "<lambda>")) := by
    refine vis_some.mpr ⟨hco, ?_⟩
    rintro (z | ⟨n, u, z1, z2⟩ | ⟨ps, z⟩)
    · exact wr1.hse c' z _ hco
    · have ob := wr1.obj n c' u z1 z2
      rw [show ({ w with H := H1 } : Vw).H c' = some (CodeO c' (X.env.qual ++ "<lambda>")) from hco] at ob
      cases u with
      | lst l =>
        obtain ⟨_, e, _⟩ := ob
        cases e
      | dct l =>
        obtain ⟨_, e, _⟩ := ob
        cases e
    · have z' : H1 c' = some (.tbl ps) := z
      rw [hco] at z'
      exact codeO_ne ps (Option.some.inj z')
  have rep : RepL X.K w.al ({ w with H := H1 } : Vw).vis [.lam f c' (X.env.qual ++ "<lambda>") (flatD ρ) (flatV ρ σ)] [.ref f] := repL_cons (by
    simp only [Rep]
    exact ⟨trivial, vco, ext.rpL (flat_rel sl)⟩) repL_nil
  have done : codeAny (model X.prog X.w) X.A (.call (.ref g) ⟨[.ref f], []⟩) (CR (L2.CX X.prog X.w) X.stack X.prog X.w H1 s' Q (WE W σ)) s' := by
    refine run_ofS (k := k + 1) (N := Ng) (ps := [a]) (us := [.ref f]) (vs := [.ref f]) lk hcd Sg room I1.env0 (hb s' [.ref f] I1.kIn rfl) (.cons rfl .nil) rfl fun room' => ?_
    refine ⟨_, hbody X.A X.stack s' H1 (WE W σ) (.lam f c' (X.env.qual ++ "<lambda>") (flatD ρ) (flatV ρ σ)) (m ρ) (fun W2 pn xe p1 p2 tk2 => lam_acts (k := k) I1 LS hf hfn hfr (bnd _ _ _ _ _) tk2 room' (fun A outer s H E r => runs A outer s H E f c' r (takes_of rfl rfl rfl rfl)) (ext.slots sl) hN hva a1 a2) (takes_of rfl rfl rfl rfl), ?_⟩
    have sl1 : Slots X.K { w with H := H1 } (List.map some [D.lam f c' (X.env.qual ++ "<lambda>") (flatD ρ) (flatV ρ σ)] ++ List.replicate (Ng.length - 1) none) (L2.start Ng [.ref f]) := by
      unfold L2.start
      exact slots_start (w := { w with H := H1 }) rep (Ng.length - 1)
    refine ⟨{ w with H := H1 }, _, rfl, wr1, sl1, ?_⟩
    have hq : Aft X.K X.mg { w with H := H1 } (runB Ng.length (b (.lam f c' (X.env.qual ++ "<lambda>") (flatD ρ) (flatV ρ σ)) (m ρ)) [.lam f c' (X.env.qual ++ "<lambda>") (flatD ρ) (flatV ρ σ)] w.M) (fun w' d => ∀ v, Rp X.K w' d v → Q v w'.H) (WE W σ) := by
      rw [hG]
      exact Aft.ext q ext
    unfold runB at hq
    rw [show [D.lam f c' (X.env.qual ++ "<lambda>") (flatD ρ) (flatV ρ σ)].length = 1 from rfl] at hq
    cases eb : b (.lam f c' (X.env.qual ++ "<lambda>") (flatD ρ) (flatV ρ σ)) (m ρ) (List.map some [D.lam f c' (X.env.qual ++ "<lambda>") (flatD ρ) (flatV ρ σ)] ++ List.replicate (Ng.length - 1) none) w.M with
    | rt d M' =>
      rw [eb] at hq
      exact fun w' v ext hM wr' r => hq w' ext hM wr' v r
    | nx ρ' M' =>
      rw [eb] at hq
      exact fun w' σ' ext hM wr' _ => hq w' ext hM wr' .non rp_non
    | exc y ρ' M' =>
      rw [eb] at hq
      exact fun w' σ' C dx v ext hM wr' _ hm hd r => hq w' C dx v ext hM wr' hm hd r
    | bk ρ' M' =>
      rw [eb] at hq
      exact hq.elim
    | ct ρ' M' =>
      rw [eb] at hq
      exact hq.elim
    | bad =>
      rw [eb] at hq
      exact hq.elim
  refine wpAny_call (codeAny_mono done fun out s2 z => ?_)
  cases out with
  | error e => exact passAt tk σ pins H1 s' e s2 I1 z
  | ok fl =>
    cases fl with
    | ret u => exact I1.after z
    | next => exact (show False from z).elim
    | brk => exact (show False from z).elim
    | cont => exact (show False from z).elim
end DL
namespace DL
open PySem PySem.Spec L2 LamX
open PyProof.Rows

/-! ### the head's facts: what the kit's Hook says, more facts, the tables of the defs that make lambdas -/
def isTabO (o : Obj) : Bool := match o.cls, o.data with
  | .none, .fields _ => true
  | _, _ => false
/-- all that is known but the tables -/
def frN (F : PySem.W.Frag) : PySem.W.Frag := F.filter fun p => !isTabO p.2
theorem frN_look : ∀ {F : PySem.W.Frag} {a : Addr} {o : Obj}, (frN F).lookup a = some o → ∃ p ∈ F, p = (a, o) ∧ isTabO o = false := fun {F a o} h => by
  have m := PySem.W.mem_of_lookupK h
  obtain ⟨m1, m2⟩ := List.mem_filter.mp m
  exact ⟨_, m1, rfl, by simpa using m2⟩
def emptyAt (F : PySem.W.Frag) (P : Addr) : Bool := match F.lookup P with
  | some ⟨.none, none, .fields vs, sl⟩ => vs.isEmpty && sl.isEmpty
  | _ => false
theorem emptyAt_ok {F : PySem.W.Frag} {P : Addr} (h : emptyAt F P = true) : F.lookup P = some (PySem.W.tabObj #[]) := by
  unfold emptyAt at h
  split at h
  · rename_i vs sl e
    obtain ⟨h1, h2⟩ := Bool.and_eq_true_iff.mp h
    rw [e, Array.isEmpty_iff.mp h1, Array.isEmpty_iff.mp h2]
  · cases h
def makesB (F : PySem.W.Frag) (x : Str) : Bool := match PySem.W.tabIn (frN F) x with
  | some (c, P) => PySem.W.codeHdIn (frN F) c P && emptyAt F P
  | none => false
abbrev AlX : Type := Bool × He.AlD
def obsX (fa : List He.Fa) (fn : List He.DefD) (ex : List (PySem.W.Frag → Bool)) (tb : List Str) (F : PySem.W.Frag) : AlX :=
  ((ex.all fun e => e (frN F)) && tb.all fun x => makesB F x, He.obsD fa fn (frN F))
def obsXG (n : Nat) (fa : List He.Fa) (fn : List He.DefD) (ex : List (PySem.W.Frag → Bool)) (tb : List Str) (g : Addr → Option Obj) : AlX := obsX fa fn ex tb (He.frG g (He.asD g n))
structure Says (fa : List He.Fa) (fn : List He.DefD) (ex : List (PySem.W.Frag → Bool)) (tb : List Str) (K : PySem.W.Frag) (h : Heap) : Prop where
  kin : K.In h
  d : He.SaysD fa fn K
  e : ∀ e ∈ ex, e K = true
  t : ∀ x ∈ tb, ∃ c P, PySem.W.tabIn K x = some (c, P) ∧ PySem.W.CodeHd h c P ∧ h.get? P = some (PySem.W.tabObj #[]) ∧ K.lookup P = none
/-- a fragment's objects stand in the heap, by membership -/
theorem frG_mem {g : Addr → Option Obj} {as : List Addr} {p : Addr × Obj} (h : p ∈ He.frG g as) : g p.1 = some p.2 := by
  obtain ⟨a, _, e⟩ := List.mem_filterMap.mp h
  obtain ⟨o, e1, e2⟩ := Option.map_eq_some_iff.mp e
  rw [← e2]
  exact e1
theorem says_of {n : Nat} {fa : List He.Fa} {fn : List He.DefD} {ex : List (PySem.W.Frag → Bool)} {tb : List Str} {h : Heap} (q : obsXG n fa fn ex tb h.get? = (true, He.valD fn)) : Says fa fn ex tb (frN (He.frG h.get? (He.asD h.get? n))) h := by
  unfold obsXG obsX at q
  obtain ⟨q1, q2⟩ := Prod.mk.inj q
  obtain ⟨q3, q4⟩ := Bool.and_eq_true_iff.mp q1
  have kin : (frN (He.frG h.get? (He.asD h.get? n))).In h := fun a o e => by
    obtain ⟨p, hp, ep, _⟩ := frN_look e
    have := frG_mem hp
    rw [ep] at this
    exact this
  refine ⟨kin, q2, fun e he => List.all_eq_true.mp q3 e he, fun x hx => ?_⟩
  have q5 := List.all_eq_true.mp q4 x hx
  unfold makesB at q5
  split at q5
  · rename_i c P ht
    obtain ⟨q6, q7⟩ := Bool.and_eq_true_iff.mp q5
    have hP : h.get? P = some (PySem.W.tabObj #[]) := by
      have := frG_mem (PySem.W.mem_of_lookupK (emptyAt_ok q7))
      exact this
    refine ⟨c, P, ht, PySem.W.codeHd_of_K kin q6, hP, ?_⟩
    cases e : (frN (He.frG h.get? (He.asD h.get? n))).lookup P with
    | none => rfl
    | some o =>
      obtain ⟨p, hp, ep, hn⟩ := frN_look e
      have := frG_mem hp
      rw [ep, hP] at this
      cases this
      cases hn
  · cases q5
def hookX (n : Nat) (fa : List He.Fa) (fn : List He.DefD) (ex : List (PySem.W.Frag → Bool)) (tb : List Str) : PySem.W.Hook where
  α := AlX
  obs := fun s => obsXG n fa fn ex tb s.heap.get?
  val := fun _ => (true, He.valD fn)
  says := fun _ h => ∃ K : PySem.W.Frag, Says fa fn ex tb K h
  of := fun _ _ e => ⟨_, says_of e⟩
  keeps := fun _ _ _ ⟨K, c⟩ k => ⟨K, PySem.W.Frag.In.keeps c.kin k, c.d, c.e, fun x hx => by
    obtain ⟨c1, P, h1, h2, h3, h4⟩ := c.t x hx
    exact ⟨c1, P, h1, h2.keeps k, k _ _ h3, h4⟩⟩
theorem obsXG_eq {n : Nat} {fa : List He.Fa} {fn : List He.DefD} {ex : List (PySem.W.Frag → Bool)} {tb : List Str} {g : Addr → Option Obj} {s : Shared} (h : ∀ a, g a = s.heap.get? a) : obsXG n fa fn ex tb g = (hookX n fa fn ex tb).obs s := by
  have e : g = s.heap.get? := funext h
  rw [e] <;> rfl

/-! ### the end of a law -/
variable [TabsOf]
/-- the abstract heap at the law's call: the script (if the module does not know it), the tables, empty -/
def hp0 (K : PySem.W.Frag) (a : Addr) (so : Obj) (ns : List Int) (ts : List Addr) : Hp := fun b => if b ∈ ts then some (.tbl #[]) else if b = a ∧ K.lookup a = none then some (.frz so (.lst (ns.map V.int))) else none
section
variable {K : PySem.W.Frag} {a b : Addr} {so : Obj} {ns : List Int} {ts : List Addr}
theorem hp0_tab (h : b ∈ ts) : hp0 K a so ns ts b = some (.tbl #[]) := if_pos h
theorem hp0_scr (h : a ∉ ts) (k : K.lookup a = none) : hp0 K a so ns ts a = some (.frz so (.lst (ns.map V.int))) := (if_neg h).trans (if_pos ⟨rfl, k⟩)
theorem hp0_cases (b : Addr) : (b ∈ ts ∧ hp0 K a so ns ts b = some (.tbl #[])) ∨ (b ∉ ts ∧ b = a ∧ K.lookup a = none ∧ hp0 K a so ns ts b = some (.frz so (.lst (ns.map V.int)))) ∨ (b ∉ ts ∧ hp0 K a so ns ts b = none) := by
  by_cases h : b ∈ ts
  · exact .inl ⟨h, if_pos h⟩
  · by_cases k : b = a ∧ K.lookup a = none
    · exact .inr (.inl ⟨h, k.1, k.2, (if_neg h).trans (if_pos k)⟩)
    · exact .inr (.inr ⟨h, (if_neg h).trans (if_neg k)⟩)
end
theorem law_callG {P : Program} {wd : World} {K : PySem.W.Frag} {mg mb : Str → Option Value} {k : Nat} {f a : Addr} {cs : List (Addr × Addr)} {fd : FuncData} {x : Str} {m : List D → Mem → Res D} {st : Shared} {vs : List Value} {ns : List Int}
    (kin : K.In st.heap) (g1 : st.heap.Ns mainGlobals mg) (g2 : st.heap.Ns builtinsNs mb) (g3 : ∀ x : Str, x ≠ "__name__" → mb x = bootBuiltins x) (g4 : st.heap.NoLimit) (g5 : st.gens = #[])
    (g6 : ∃ (bm : Addr) (ob : Obj), mg "__builtins__" = some (.ref bm) ∧ bm ≠ builtinsNs ∧ st.heap.get? bm = some ob ∧ ob.cls = .type "module" ∧ ob.dict = some builtinsNs ∧ ob.data = .plain)
    (tO : ∀ p ∈ cs, st.heap.get? p.2 = some (PySem.W.tabObj #[])) (tN : ∀ p ∈ cs, K.lookup p.2 = none) (tC : ∀ p ∈ cs, PySem.W.CodeHd st.heap p.1 p.2) (tT : ∀ p ∈ TabsOf.T, p.1 ∈ cs.map (·.2))
    (sc : st.heap.get? a = some { cls := .type "list", data := .seq vs.toArray }) (si : IntsAre vs ns) (sl : ns.length ≤ sizeLine) (room : Room k callerA)
    (F : ∀ base : Heap, K.In base → base.Ns mainGlobals mg → (∀ p ∈ cs, TabB base mg p.1 p.2) → FnG true P wd K mg base k f fd [x] (spD K mg 1 m)) (bnd : ∀ (s : Shared) (u : Value), BindsTo s fd ⟨[u], []⟩ [(x, u)])
    (hm : ∃ M', m [.fz (ns.map D.int)] [] = .ok (.bl true) M') :
    codeAny (model P wd) callerA (.call (.ref f) ⟨[.ref a], []⟩) (fun r s' => r = .ok (.ret (.bool true)) ∧ OldK st.heap s'.heap ∧ s'.os = st.os ∧ AllBare s'.gens) st := by
  have rv := vals_ints si
  have lenV := si.length
  have isT : ∀ b, b ∈ cs.map (·.2) → st.heap.get? b = some (PySem.W.tabObj #[]) := fun b hb => by
    obtain ⟨p, hp, e⟩ := List.mem_map.mp hb
    exact e ▸ tO p hp
  have aT : a ∉ cs.map (·.2) := fun z => by
    have q := (isT a z).symm.trans sc
    cases q
  let so : Obj := { cls := .type "list", data := .seq vs.toArray }
  let H : Hp := hp0 K a so ns (cs.map (·.2))
  have cas : ∀ b, (b ∈ cs.map (·.2) ∧ H b = some (.tbl #[])) ∨ (b ∉ cs.map (·.2) ∧ b = a ∧ K.lookup a = none ∧ H b = some (.frz so (.lst (ns.map V.int)))) ∨ (b ∉ cs.map (·.2) ∧ H b = none) := fun b => hp0_cases b
  -- what is no list and no table is not tracked
  have free : ∀ {b : Addr} {o : Obj}, st.heap.get? b = some o → o.cls ≠ .type "list" → isTabO o = false → H b = none := fun {b o} e n1 n2 => by
    rcases cas b with ⟨q, _⟩ | ⟨_, q, _⟩ | ⟨_, q⟩
    · rw [isT b q] at e
      cases e
      cases n2
    · rw [q, sc] at e
      cases e
      exact absurd rfl n1
    · exact q
  have laid : ∀ {b : Addr} {o : Obj}, st.heap.get? b = some o → H b = none → (hidT st.heap H).get? b = some o := fun e n => hidT_get e n
  have dictFree : ∀ {b : Addr} {o : Obj} {es : Array DictEntry} {ep : Nat}, st.heap.get? b = some o → o.data = .dict es ep → H b = none := fun {b o es ep} e d => by
    rcases cas b with ⟨q, _⟩ | ⟨_, q, _⟩ | ⟨_, q⟩
    · rw [isT b q] at e
      cases e
      cases d
    · rw [q, sc] at e
      cases e
      cases d
    · exact q
  have nsL : ∀ {b : Addr} {mm : Str → Option Value}, st.heap.Ns b mm → (hidT st.heap H).Ns b mm := fun {b mm} z => by
    obtain ⟨o, es, ep, e, d, r⟩ := z
    exact ⟨o, es, ep, laid e (dictFree e d), d, r⟩
  have kinL : K.In (hidT st.heap H) := fun b o e => by
    refine laid (kin b o e) ?_
    rcases cas b with ⟨q, _⟩ | ⟨_, q, q2, _⟩ | ⟨_, q⟩
    · obtain ⟨p, hp, ep⟩ := List.mem_map.mp q
      have := tN p hp
      rw [ep, e] at this
      cases this
    · rw [q, q2] at e
      cases e
    · exact q
  have lim : (hidT st.heap H).NoLimit := by
    obtain ⟨mc, h1, h2⟩ := g4
    exact ⟨mc, nsL h1, h2⟩
  have gOnly : ∀ p ∈ cs, mainGlobals ≠ p.2 := fun p hp z => by
    obtain ⟨o, es, ep, e, d, _⟩ := g1
    rw [z, tO p hp] at e
    cases e
    cases d
  have tabsB : ∀ p ∈ cs, TabB (hidT st.heap H) mg p.1 p.2 := fun p hp => by
    refine ⟨?_, ?_, gOnly p hp⟩
    · obtain ⟨o, us, file, tf, flags, tg, inF, text, tt, e1, e2, r⟩ := tC p hp
      exact ⟨o, us, file, tf, flags, tg, inF, text, tt, laid e1 (free e1 (by rw [e2]; decide) (by unfold isTabO; rw [e2])), e2, r⟩
    · obtain ⟨bm, ob, b1, b2, b3, b4, b5, b6⟩ := g6
      have far : bm ≠ mainGlobals := fun z => by
        obtain ⟨o, es, ep, e, d, _⟩ := g1
        rw [← z, b3] at e
        cases e
        rw [b6] at d
        cases d
      have far2 : bm ≠ p.2 := fun z => by
        have := tO p hp
        rw [← z, b3] at this
        cases this
        cases b4
      exact ⟨bm, ob, b1, b2, far, far2, laid b3 (free b3 (by rw [b4]; decide) (by unfold isTabO; rw [b4])), b4, b5, b6⟩
  have okH : HOk P wd H st.heap := fun b u e => by
    rcases cas b with ⟨q, e2⟩ | ⟨_, q, _, e2⟩ | ⟨_, e2⟩
    · rw [e2] at e
      cases e
      exact isT b q
    · rw [e2] at e
      cases e
      rw [q]
      exact ⟨sc, by rw [List.length_map]; exact sl, vs, _, rv, sc⟩
    · rw [e2] at e
      cases e
  have env : Env0 P wd K mg (hidT st.heap H) callerA [] st H :=
    ⟨rfl, ⟨kinL, nsL g1, ⟨mb, nsL g2, g3⟩, lim⟩, fun b o e => of_hidT e, Nat.le_of_eq (hidT_size _ _), trivial, fun b hb => (nomatch (show b ∈ ([] : List Addr) from hb)), okH, .of_eq g5⟩
  -- the view
  have noAl : ∀ {b : Addr} {n : Nat}, ([] : List Addr)[n]? = some b → False := fun h => by simp at h
  have wr : WR K ⟨[], [], [], H, []⟩ := by
    refine ⟨rfl, List.nodup_nil, fun b hb => (nomatch hb), fun b hb => (nomatch hb), fun b hb => (nomatch hb), fun n b o h => (noAl h).elim, fun n b o h => (noAl h).elim, fun b hb => (nomatch hb), fun p hp => ?_, fun b hb => (nomatch hb), fun b hb => (nomatch hb)⟩
    exact TabS.nil (hp0_tab (tT p hp))
  have scr : SqL K (⟨[], [], [], H, []⟩ : Vw).vis a (ns.map V.int) := by
    cases hk : K.lookup a with
    | none =>
      refine .inl (.inr ⟨so, vis_some.mpr ⟨hp0_scr aT hk, ?_⟩⟩)
      rintro (z | ⟨n, o, z, _⟩ | ⟨ps, z⟩)
      · exact nomatch z
      · exact noAl z
      · have z' : H a = some (.tbl ps) := z
        rw [show H a = _ from hp0_scr aT hk] at z'
        cases z'
    | some o =>
      have e := kin a o hk
      rw [sc] at e
      cases e
      exact .inr ⟨_, vs.toArray, _, hk, rfl, rfl, rfl, by rw [List.size_toArray, lenV]; exact sl, by simpa using rv⟩
  obtain ⟨M', hm⟩ := hm
  have want : spD K mg 1 m [.ref a] H (fun v _ => v = .bl true) fun _ _ _ => False := by
    refine ⟨⟨[], [], [], H, []⟩, [.fz (ns.map D.int)], rfl, wr, repL_cons ?_ repL_nil, rfl, ?_⟩
    · simp only [Rep]
      exact ⟨a, _, rfl, scr, repL_ints ns⟩
    · rw [show (⟨[], [], [], H, []⟩ : Vw).M = [] from rfl, hm]
      intro w' _ _ _ v r
      simpa only [Rp, Rep] using r
  refine codeAny_mono ((F _ kinL (nsL g1) tabsB).run callerA [] st H ⟨[.ref a], []⟩ [.ref a] [.ref a] _ _ room (fun _ => rfl) env (bnd st (.ref a)) (.cons rfl .nil) want) fun r s' z => ?_
  cases r with
  | error e =>
    obtain ⟨_, _, _, _, _, _, _, _, _, _, _, _, q⟩ := z
    exact q.elim
  | ok fl =>
    cases fl with
    | next => exact (show False from z).elim
    | brk => exact (show False from z).elim
    | cont => exact (show False from z).elim
    | ret u =>
      obtain ⟨v, H', os, bare, un, okH', ru, q⟩ := z
      subst q
      obtain rfl : u = Value.bool true := ru
      have grown : ∀ b, b ∈ cs.map (·.2) → ∃ more : Array Value, s'.heap.get? b = some (PySem.W.tabObj more) := fun b hb => by
        obtain ⟨more, e⟩ := un.tbls b #[] (hp0_tab hb)
        exact ⟨_, okH' b _ e⟩
      have kept : ∀ b o, b ∉ cs.map (·.2) → st.heap.get? b = some o → s'.heap.get? b = some o := fun b o n e => by
        rcases cas b with ⟨q, _⟩ | ⟨_, q, _, e2⟩ | ⟨_, e2⟩
        · exact absurd q n
        · have e3 := un.frzs b so _ e2
          obtain ⟨h1, _⟩ := okH b _ e2
          obtain ⟨h2, _⟩ := okH' b _ e3
          rw [e] at h1
          cases h1
          exact h2
        · exact un.keep b o e e2 (fun hb => nomatch (show b ∈ ([] : List Addr) from hb)) (fun hb => nomatch hb)
      refine ⟨rfl, ⟨fun b o e => ?_, fun b o e => ?_⟩, os, bare⟩
      · by_cases hb : b ∈ cs.map (·.2)
        · obtain ⟨more, hmore⟩ := grown b hb
          obtain ⟨p, hp, ep⟩ := List.mem_map.mp hb
          rw [isT b hb] at e
          cases e
          have tab := ((tC p hp).tab (tO p hp)).isCodeTable
          rw [ep] at tab
          exact .inr (.inl ⟨tab, rfl, #[], more, rfl, by rw [Array.empty_append]; exact hmore⟩)
        · exact .inl (kept b o hb e)
      · by_cases hb : b ∈ cs.map (·.2)
        · obtain ⟨more, hmore⟩ := grown b hb
          exact ⟨_, hmore⟩
        · exact ⟨o, kept b o hb e⟩
omit [TabsOf] in
/-- a law whose def has the denotation m -/
theorem walk_ofG {l : PySem.W.OpenLaw} {n k : Nat} {q : Program} {loose : List Str} {XP : (Str → Option Value) → Heap → Prop} {YP : World → Heap → Prop} {d : DefRec} {x : Str}
    (hn : l.most = some n) (hn2 : n ≤ sizeLine) (hdf : d.params.defaults = []) (room : Room k callerA)
    (F : ∀ (w : World) (mg : Str → Option Value) (f : Addr) (h : Heap), YP w h → h.Ns mainGlobals mg → mg d.name = some (.ref f) →
      ∃ (K : PySem.W.Frag) (fd : FuncData) (cs : List (Addr × Addr)) (T : TabsOf) (m : List D → Mem → Res D), K.In h ∧ (∀ p ∈ cs, h.get? p.2 = some (PySem.W.tabObj #[])) ∧ (∀ p ∈ cs, K.lookup p.2 = none) ∧ (∀ p ∈ cs, PySem.W.CodeHd h p.1 p.2) ∧ (∀ p ∈ T.T, p.1 ∈ cs.map (·.2)) ∧
        (∀ (s : Shared) (u : Value), BindsTo s fd ⟨[u], []⟩ [(x, u)]) ∧ (∀ ns : List Int, ns.length ≤ n → (∀ z ∈ ns, Builtin.Int.intBits z ≤ 1048576) → ∃ M', m [.fz (ns.map D.int)] [] = .ok (.bl true) M') ∧
        ∀ base : Heap, K.In base → base.Ns mainGlobals mg → (∀ p ∈ cs, TabB base mg p.1 p.2) → FnG true l.prog w K mg base k f fd [x] (@spD T K mg 1 m)) :
    PySem.W.WalkO q loose XP YP l.row.toRowW d [] (fun f vs => PySem.call f vs) := by
  refine Att.attach_callB hn hdf fun w s₀ s₁ mg mb fa o pm cd doc a vs ns G Y ho hd hcd hmg hobj hints hlen hbits hg => ?_
  obtain ⟨K, fd, cs, T, m, h1, h2, h3, h4, h5, h6, h7, h8⟩ := F w mg fa _ Y G.T.g hmg
  letI := T
  exact law_callG h1 G.T.g G.T.b G.T.builtins G.T.nolimit hg G.T.bmain h2 h3 h4 h5 hobj hints (Nat.le_trans hlen hn2) room h8 h6 (h7 ns hlen hbits)
end DL
namespace DL
open PySem PySem.Spec L2
variable [TabsOf]
variable {X : Cx} {W : WX}

/-! ### a dict's display: owned -/
/-- a hidden object is owned from now on -/
theorem adopt {K : PySem.W.Frag} {w : Vw} (wr : WR K w) {p : Addr} {S : List Addr} (hS : w.S = p :: S) (hpS : p ∉ S) (o : HO) (ho : ∀ ps, o ≠ .tbl ps) (hoe : ∀ φ, o ≠ .ext φ) (m : MO) (hm : RepO K w.al w.vis (some o) m) :
    Gr w ⟨w.al ++ [p], w.M ++ [some m], S, upd w.H p o, w.T⟩ ∧ WR K ⟨w.al ++ [p], w.M ++ [some m], S, upd w.H p o, w.T⟩ := by
  have hp : p ∈ w.S := by rw [hS]; exact List.mem_cons_self
  have hin : ∀ a ∈ S, a ∈ w.S := fun a ha => by rw [hS]; exact List.mem_cons_of_mem _ ha
  have hpal : p ∉ w.al := fun h => wr.dja p h hp
  have hH : ∀ a, a ≠ p → upd w.H p o a = w.H a := fun a h => upd_ne h
  have hget : ∀ (n : Nat) a u, (w.al ++ [p])[n]? = some a → (w.M ++ [some m])[n]? = some (some u) → (w.al[n]? = some a ∧ w.M[n]? = some (some u)) ∨ (a = p ∧ u = m) := fun n a u e1 e2 => by
    by_cases hl : n < w.al.length
    · rw [List.getElem?_append_left hl] at e1
      rw [List.getElem?_append_left (by rw [← wr.len]; exact hl)] at e2
      exact .inl ⟨e1, e2⟩
    · rw [List.getElem?_append_right (by omega)] at e1
      rw [List.getElem?_append_right (by rw [← wr.len]; omega)] at e2
      have h0 : n - w.al.length = 0 := by
        obtain ⟨h, _⟩ := List.getElem?_eq_some_iff.mp e1
        simp at h
        exact h
      rw [h0] at e1
      rw [show n - w.M.length = 0 by rw [← wr.len]; exact h0] at e2
      simp at e1 e2
      exact .inr ⟨e1.symm, e2.symm⟩
  have hsub : Sub w.vis (⟨w.al ++ [p], w.M ++ [some m], S, upd w.H p o, w.T⟩ : Vw).vis := fun a u h => by
    obtain ⟨h1, h2⟩ := vis_some.mp h
    have hap : a ≠ p := fun e => h2 (.inl (e ▸ hp))
    refine vis_some.mpr ⟨by show upd w.H p o a = _; rw [hH a hap]; exact h1, ?_⟩
    rintro (z | ⟨n, q, e1, e2⟩ | ⟨ps, z⟩)
    · exact h2 (.inl (hin a z))
    · rcases hget n a q e1 e2 with ⟨e3, e4⟩ | ⟨e3, _⟩
      · exact h2 (.inr (.inl ⟨n, q, e3, e4⟩))
      · exact hap e3
    · have z' : upd w.H p o a = some (.tbl ps) := z
      rw [hH a hap] at z'
      exact h2 (.inr (.inr ⟨ps, z'⟩))
  have hne : ∀ a ∈ S, a ≠ p := fun a ha e => hpS (e ▸ ha)
  refine ⟨⟨List.prefix_append _ _, hsub⟩, ⟨by simp [wr.len], ?_, fun a ha => ?_, fun a ha ps z => ?_, fun a ha ps z => ?_, fun n a u e1 e2 z => ?_, fun n a u e1 e2 => ?_, fun a ha => ?_, tabs_upd wr.tabs (wr.hst p hp) (wr.hse p hp), alt_app wr.alt ho, fun a ha z => ?_⟩⟩
  · refine List.nodup_append.mpr ⟨wr.nd, by simp, fun a ha b hb e => ?_⟩
    simp at hb
    subst hb
    subst e
    exact hpal ha
  · show upd w.H p o a ≠ none
    rw [hH a (hne a ha)]
    exact wr.hs a (hin a ha)
  · have z' : upd w.H p o a = some (.tbl ps) := z
    rw [hH a (hne a ha)] at z'
    exact wr.hst a (hin a ha) ps z'
  · have z' : upd w.H p o a = some (.ext ps) := z
    rw [hH a (hne a ha)] at z'
    exact wr.hse a (hin a ha) ps z'
  · rcases hget n a u e1 e2 with ⟨e3, e4⟩ | ⟨e3, _⟩
    · exact wr.dj n a u e3 e4 (hin a z)
    · exact hpS (e3 ▸ z)
  · rcases hget n a u e1 e2 with ⟨e3, e4⟩ | ⟨e3, e4⟩
    · have h1 := wr.obj n a u e3 e4
      have hap : a ≠ p := fun e => hpal (e ▸ List.mem_of_getElem? e3)
      show RepO K _ _ (upd w.H p o a) u
      rw [hH a hap]
      exact h1.mono (List.prefix_append _ _) hsub
    · subst e3
      subst e4
      show RepO K _ _ (upd w.H a o a) u
      rw [upd_same]
      exact hm.mono (List.prefix_append _ _) hsub
  · show upd w.H p o a ≠ none
    rcases List.mem_append.mp ha with h | h
    · rw [hH a fun e => hpal (e ▸ h)]
      exact wr.al0 a h
    · simp at h
      subst h
      rw [upd_same]
      exact fun z => nomatch z
  · rcases List.mem_append.mp ha with h | h
    · exact wr.dja a h (hin a z)
    · simp at h
      exact hpS (h ▸ z)
def aAll : List (Env → Mem → Res D) → Env → Mem → Res (List D)
  | [] => aNil
  | m :: r => aCons m (aAll r)
def kvZip : List Str → List D → List (Key × D)
  | k :: ks, d :: ds => (.inr k, d) :: kvZip ks ds
  | _, _ => []
def dMerge (l : List (Key × D)) : List (Key × D) := l.foldl (fun acc kv => dPut acc kv.1 kv.2) []
def dictR (ks : List Str) (r : Res (List D)) : Res D := match r with
  | .ok ds M => .ok (.own M.length) (M ++ [some (.dct (dMerge (kvZip ks ds)))])
  | _ => .bad
def eDict (ks : List Str) (ms : List (Env → Mem → Res D)) : Env → Mem → Res D := fun ρ M => dictR ks (aAll ms ρ M)
def trsOf (X : Cx) (W : WX) : List Str → List (Env → Mem → Res D) → List (TE × TE)
  | k :: ks, m :: ms => (tC (.str k), tE X W m) :: trsOf X W ks ms
  | _, _ => []
theorem t_pairs {σ : L2.St} : ∀ {ks : List Str} {ms : List (Env → Mem → Res D)} {H : Hp} {Q : List (V × V) → Hp → Prop}, ks.length = ms.length → tR X W (RpL X.K) (aAll ms) σ H (fun vs H' => Q ((ks.map V.str).zip vs) H') → tPairs (trsOf X W ks ms) σ H Q
  | [], [], H, Q, _, ⟨w, ρ, hH, wr, sl, q⟩ => by
    subst hH
    exact Aft.here q wr [] repL_nil
  | k :: ks, m :: ms, H, Q, hl, ⟨w, ρ, hH, wr, sl, q⟩ => by
    subst hH
    show tC (.str k) σ w.H fun x H1 => tR X W (Rp X.K) m σ H1 fun y H2 => tPairs (trsOf X W ks ms) σ H2 fun ps H3 => Q ((x, y) :: ps) H3
    show tR X W (Rp X.K) m σ w.H fun y H2 => tPairs (trsOf X W ks ms) σ H2 fun ps H3 => Q ((V.str k, y) :: ps) H3
    refine tR_step (m := m) (k := fun x M1 => (aAll ms ρ M1).bind fun xs M2 => .ok (x :: xs) M2) wr sl q fun w1 x vx ext1 wr1 rx q1 => ?_
    refine t_pairs (by simpa using hl) ⟨w1, ρ, rfl, wr1, ext1.slots sl, ?_⟩
    refine Aft.mono (aft_bind q1) fun w2 xs ext2 wr2 q2 vs rvs => ?_
    exact Aft.here q2 wr2 (vx :: vs) (repL_cons (ext2.rp rx) rvs)
  | [], _ :: _, _, _, hl, _ => by simp at hl
  | _ :: _, [], _, _, hl, _ => by simp at hl
theorem kv_rel {K : PySem.W.Frag} {al : List Addr} {F : Hp} : ∀ {ks : List Str} {ds : List D} {vs : List V}, ks.length = ds.length → RepL K al F ds vs → ∃ kvs : List (Key × V), (ks.map V.str).zip vs = kvs.map (fun kv => (kV kv.1, kv.2)) ∧ kvs.length = ks.length ∧ RepK K al F (kvZip ks ds) kvs
  | [], [], vs, _, h => by
    have e : vs = [] := by simpa only [RepL] using h
    subst e
    exact ⟨[], rfl, rfl, rfl⟩
  | k :: ks, d :: ds, vs, hl, h => by
    simp only [RepL] at h
    obtain ⟨v, r, rfl, h1, h2⟩ := h
    obtain ⟨kvs, e1, e2, e3⟩ := kv_rel (by simpa using hl) h2
    exact ⟨(.inr k, v) :: kvs, by simp only [List.map_cons, List.zip_cons_cons, e1]; rfl, by simp [e2], (.inr k, v), kvs, rfl, rfl, h1, e3⟩
  | [], _ :: _, _, hl, _ => by simp at hl
  | _ :: _, [], _, hl, _ => by simp at hl
theorem merge_rel {K : PySem.W.Frag} {al : List Addr} {F : Hp} : ∀ {more : List (Key × D)} {vs : List (Key × V)} {acc : List (Key × D)} {av : List (Key × V)}, RepK K al F more vs → RepK K al F acc av → RepK K al F (more.foldl (fun acc kv => dPut acc kv.1 kv.2) acc) (mergeK av vs)
  | [], vs, acc, av, h, ha => by
    have e : vs = [] := h
    subst e
    exact ha
  | z :: more, vs, acc, av, h, ha => by
    obtain ⟨v, r, rfl, h1, h2, h3⟩ := h
    rw [List.foldl_cons]
    unfold mergeK
    rw [List.foldl_cons]
    have hp := repK_put (k := z.1) ha h2
    rw [show putK av v.1 v.2 = putK av z.1 v.2 by rw [h1]]
    exact merge_rel h3 hp
theorem aAll_len : ∀ {ms : List (Env → Mem → Res D)} {ρ : Env} {M M' : Mem} {ds : List D}, aAll ms ρ M = .ok ds M' → ds.length = ms.length
  | [], ρ, M, M', ds, h => by
    cases h
    rfl
  | m :: ms, ρ, M, M', ds, h => cnt_cons (n := ms.length) (fun ρ M ds M' e => aAll_len e) ρ M ds M' h
theorem t_disp {σ : L2.St} {H : Hp} {Q : VK} {ks : List Str} {ms : List (Env → Mem → Res D)} (hl : ks.length = ms.length) (h15 : ks.length ≤ 15) (h : tE X W (eDict ks ms) σ H Q) : tDisp (trsOf X WF ks ms) σ H Q := by
  obtain ⟨w, ρ, hH, wr, sl, q⟩ := h
  subst hH
  unfold tDisp
  intro p hp
  have hpS : p ∉ w.S := fun z => wr.hs p z hp
  obtain ⟨g1, wr1⟩ := hid_new wr hp (.dK []) (no_tbl trivial) (fun φ z => by cases z)
  refine t_pairs (W := WF) hl ⟨_, ρ, rfl, wr1, g1.slots sl, ?_⟩
  unfold eDict at q
  have mm : (⟨w.al, w.M, p :: w.S, upd w.H p (.dK []), w.T⟩ : Vw).M = w.M := rfl
  rw [mm]
  cases e : aAll ms ρ w.M with
  | bad =>
    rw [e] at q
    exact q
  | exc y M' =>
    rw [e] at q
    exact q.elim
  | ok ds M' =>
    rw [e] at q
    intro w2 ext2 hM2 wr2 vs rvs
    have hS2 : w2.S = p :: w.S := ext2.S
    have hH2 : w2.H p = some (.dK []) := (ext2.hid p List.mem_cons_self).trans upd_same
    obtain ⟨kvs, k1, k2, k3⟩ := kv_rel (ks := ks) (by rw [aAll_len e]; exact hl) rvs
    refine ⟨hH2, kvs, k1, by omega, ?_⟩
    have rm : RepK X.K w2.al w2.vis (dMerge (kvZip ks ds)) (mergeK [] kvs) := merge_rel k3 rfl
    obtain ⟨g3, wr3⟩ := adopt wr2 hS2 hpS (.dK (mergeK [] kvs)) (no_tbl trivial) (fun φ z => by cases z) (.dct (dMerge (kvZip ks ds))) ⟨_, rfl, rm⟩
    have g := (g1.trans ext2.gr).trans g3
    refine q ⟨w2.al ++ [p], w2.M ++ [some (.dct (dMerge (kvZip ks ds)))], w.S, upd w2.H p (.dK (mergeK [] kvs)), w2.T⟩ ⟨g.al, g.vis, rfl, fun a ha => ?_, ext2.T⟩ (by show _ ++ _ = _; rw [hM2]) wr3 _ ?_
    · have hap : a ≠ p := fun z => hpS (z ▸ ha)
      show upd w2.H p _ a = w.H a
      rw [upd_ne hap, ext2.hid a (List.mem_cons_of_mem _ ha)]
      exact upd_ne hap
    · simp only [Rp, Rep]
      refine ⟨p, rfl, ?_⟩
      rw [← hM2, ← wr2.len]
      simp
theorem dpp_nil {pos : Pos} : PPs X pos [] [] (trsOf X W [] []) := pps_nil
theorem dpp_cons {pos kp : Pos} {j : Nat} {k : Str} {v : Expr} {ks : List (Option Expr)} {vs : List Expr} {kk : List Str} {m : Env → Mem → Res D} {ms : List (Env → Mem → Res D)} (hv : PE X v (tE X W m)) (hr : PPs X pos ks vs (trsOf X W kk ms)) :
    PPs X pos (some (.Constant (.str k) j kp) :: ks) (v :: vs) (trsOf X W (k :: kk) (m :: ms)) := pps_cons pe_str hv hr
theorem d_dict {pos : Pos} {keys : List (Option Expr)} {values : List Expr} {ks : List Str} {ms : List (Env → Mem → Res D)} (h : PPs X pos keys values (trsOf X WF ks ms)) (hl : ks.length = ms.length := by rfl) (h15 : ks.length ≤ 15 := by decide) (hall : keys.all (·.isSome) = true := by rfl) (hk : keys.length = values.length := by rfl)
    (h0 : keys ≠ [] := by exact fun z => nomatch z) (hk15 : keys.length ≤ 15 := by decide) : PE X (.Dict keys values pos) (tE X W (eDict ks ms)) := PE.imp (pe_disp h hall hk h0 hk15) fun σ H Q h => t_disp hl h15 h

/-! ### list(range(e)) -/
def eListRg (m : Env → Mem → Res D) : Env → Mem → Res D := fun ρ M => (m ρ M).bind fun d M1 => match d with
  | .int j => if 0 ≤ j ∧ j ≤ 1000000 then .ok (.lst (rangeD 0 j.toNat)) M1 else .bad
  | _ => .bad
theorem rgV_rel {K : PySem.W.Frag} {al : List Addr} {F : Hp} {j : Int} : RepL K al F (rangeD 0 j.toNat) (rgV 0 j) := by
  refine repL_iff.mpr ⟨by simp [rangeD, rgV], fun i d v e1 e2 => ?_⟩
  unfold rangeD at e1
  unfold rgV at e2
  rw [List.getElem?_map] at e1 e2
  rw [show (j - 0).toNat = j.toNat by simp] at e2
  cases e : (List.range j.toNat)[i]? with
  | none =>
    rw [e] at e1
    cases e1
  | some k =>
    rw [e] at e1 e2
    cases e1
    cases e2
    simp only [Rep]
theorem d_listRg {a : Expr} {m : Env → Mem → Res D} {p p1 p2 pos : Pos} (hc : X.calm = true) (hg : Gl X "list") (hm : X.mg "list" = none) (hg2 : Gl X "range") (hm2 : X.mg "range" = none) (ha : PE X a (tE X W m)) (na : starEach [a] X.env = (false, eval a X.env) :: starEach [] X.env := by rfl)
    (nb : starEach [.Call (.Name "range" p1) [a] [] p2] X.env = (false, eval (.Call (.Name "range" p1) [a] [] p2) X.env) :: starEach [] X.env := by rfl) :
    PE X (.Call (.Name "list" p) [.Call (.Name "range" p1) [a] [] p2] [] pos) (tE X W (eListRg m)) := PE.imp (pe_listRg hc hg hm (prg_1 hg2 hm2 ha na) nb) fun σ H Q ⟨w, ρ, hH, wr, sl, q⟩ => by
  subst hH
  unfold tLstRg tRg1
  refine tR_step wr sl q fun w1 x vx ext1 wr1 rx q1 => ?_
  cases x with
  | int j =>
    obtain rfl := rp_int_inv rx
    obtain ⟨c, q2⟩ := aft_if (show Aft X.K X.mg w1 (if 0 ≤ j ∧ j ≤ 1000000 then Res.ok (D.lst (rangeD 0 j.toNat)) w1.M else Res.bad) _ _ from q1)
    exact ⟨j, rfl, RgOk.of_le (by omega) (by omega) (by omega) (by omega), fin_lst wr1 rgV_rel q2⟩
  | _ => exact q1.elim

/-! ### names of classes, of types -/
theorem d_cls {x : Str} {a : Addr} {pos : Pos} (hg : Gl X x) (hm : X.mg x = some (.ref a)) (hd : (x == ("__debug__" : Str)) = false := by decide) : PE X (.Name x pos) (tE X W (eC (.adr a))) := d_c (pe_glob hg hm (show RelV (.ref a) (.ref a) from rfl) hd) fun w => by simp only [Rp, Rep]
theorem d_type {x : Str} {T : String} {pos : Pos} (hg : Gl X x) (hm : X.mg x = none) (hv : bootBuiltins x = some (.type T)) (hn : x ≠ "__name__" := by decide) (hd : (x == ("__debug__" : Str)) = false := by decide) : PE X (.Name x pos) (tE X W (eC (.ty T))) := d_c (pe_bltn hg hm hv (show RelV (.ty T) (.type T) from rfl) hn hd) fun w => rp_ty
theorem d_gint {x : Str} {i : Int} {pos : Pos} (hg : Gl X x) (hm : ∃ t, X.mg x = some (.int i t)) (hd : (x == ("__debug__" : Str)) = false := by decide) : PE X (.Name x pos) (tE X W (eC (.int i))) := by
  obtain ⟨t, hm⟩ := hm
  exact d_c (pe_glob hg hm (show RelV (.int i) (.int i t) from ⟨t, rfl⟩) hd) fun w => rp_int
/-- a context that lets nothing out: the same denotation, its exceptions taken for bad -/
def noExc (b : SD) : SD := fun ρ M => match b ρ M with
  | .exc _ _ _ => .bad
  | r => r
theorem ds_calm {st : Stmt} {b : SD} (h : PS X st (tS X WF b)) : PS X st (tS X W (noExc b)) := PS.imp h fun Dn σ H ⟨w, ρ, hH, wr, sl, q⟩ => by
  refine ⟨w, ρ, hH, wr, sl, ?_⟩
  unfold noExc at q
  cases e : b ρ w.M with
  | exc y ρ' M' =>
    rw [e] at q
    exact q.elim
  | nx ρ' M' =>
    rw [e] at q
    exact q
  | rt d M' =>
    rw [e] at q
    exact q
  | bk ρ' M' =>
    rw [e] at q
    exact q
  | ct ρ' M' =>
    rw [e] at q
    exact q
  | bad =>
    rw [e] at q
    exact q
theorem ds_thru {body : List Stmt} {h0 : ExceptHandler} {hs : List ExceptHandler} {pos : Pos} {b : SD} (h : Takes X.nox WF → PSs X.nox body (tS X WF b)) : PS X (.Try body (h0 :: hs) [] [] pos) (tS X W (noExc b)) := ds_calm (ps_try_thru0 (h LamX.takes0))
end DL
namespace DL
open PySem PySem.Spec L2
variable [TabsOf]
variable {X : Cx} {W : WX}

/-! ### isinstance of plain data -/
def kitT (t T : String) : Option Bool := if T = "int" then (if t = "int" ∨ t = "bool" then some true else if t = "NoneType" ∨ t = "str" ∨ t = "tuple" ∨ t = "list" then some false else none)
  else if T = "bool" then (if t = "bool" then some true else if t = "int" ∨ t = "NoneType" ∨ t = "str" ∨ t = "tuple" ∨ t = "list" then some false else none)
  else if T = "tuple" then (if t = "tuple" then some true else if t = "int" ∨ t = "bool" ∨ t = "NoneType" ∨ t = "str" ∨ t = "list" then some false else none)
  else if T = "str" then (if t = "str" then some true else if t = "int" ∨ t = "bool" ∨ t = "NoneType" ∨ t = "tuple" ∨ t = "list" then some false else none)
  else if T = "list" then (if t = "list" then some true else if t = "int" ∨ t = "bool" ∨ t = "NoneType" ∨ t = "tuple" ∨ t = "str" then some false else none)
  else none
theorem kitT_ok {K : PySem.W.Frag} : ∀ t T b, kitT t T = some b → PySem.W.kitOne K (.type t) (.type T) = some b := by
  intro t T b h
  unfold kitT at h
  split at h
  · rename_i e
    subst e
    split at h
    · rename_i e
      rcases e with rfl | rfl <;> cases h <;> kernel_rfl
    · split at h
      · rename_i e
        rcases e with rfl | rfl | rfl | rfl <;> cases h <;> kernel_rfl
      · cases h
  · split at h
    · rename_i e
      subst e
      split at h
      · rename_i e
        subst e
        cases h
        kernel_rfl
      · split at h
        · rename_i e
          rcases e with rfl | rfl | rfl | rfl | rfl <;> cases h <;> kernel_rfl
        · cases h
    · split at h
      · rename_i e
        subst e
        split at h
        · rename_i e
          subst e
          cases h
          kernel_rfl
        · split at h
          · rename_i e
            rcases e with rfl | rfl | rfl | rfl | rfl <;> cases h <;> kernel_rfl
          · cases h
      · split at h
        · rename_i e
          subst e
          split at h
          · rename_i e
            subst e
            cases h
            kernel_rfl
          · split at h
            · rename_i e
              rcases e with rfl | rfl | rfl | rfl | rfl <;> cases h <;> kernel_rfl
            · cases h
        · split at h
          · rename_i e
            subst e
            split at h
            · rename_i e
              subst e
              cases h
              kernel_rfl
            · split at h
              · rename_i e
                rcases e with rfl | rfl | rfl | rfl | rfl <;> cases h <;> kernel_rfl
              · cases h
          · cases h
abbrev isD : GL := isiD kitT
theorem f_isD : CallD X (.builtin "isinstance") isD := f_isi kitT_ok
theorem room1 {k : Nat} {A : Around} (h : Room k A) : A.units + 1 < cLine := by
  have := room64 h
  omega

/-! ### defs from the head's facts -/
/-- a def called positionally -/
theorem DefG.of {gd : Bool} {P : Program} {wd : World} {K : PySem.W.Frag} {mg : Str → Option Value} {base : Heap} {x qual : Str} {params : Arguments} {body : List Stmt} {scope : Scope} {kws : List (Str × V)} {f : Addr} {fd : FuncData} {ps : List Str} {k : Nat} {m : List D → Mem → Res D} (F : FunD K x qual params body scope [] kws f fd) (g : mg x = some (.ref f))
    (b : ∀ (kV doc pm : Value) (an : Option Addr) (cdv ct : Value) (us : List Value), us.length = ps.length → bindArgs (PySem.W.fnOf x qual params body scope .none kV doc pm an cdv ct) ⟨us, []⟩ = pure (ps.zip us))
    (G : FnG gd P wd K mg base k f fd ps (spD K mg ps.length m)) : DefG gd P wd K mg base x ps k m := ⟨f, fd, g, F.kp, F.bindsN b, G⟩
/-- the same def called by keywords alone -/
theorem DefK.of {gd : Bool} {P : Program} {wd : World} {K : PySem.W.Frag} {mg : Str → Option Value} {base : Heap} {x qual : Str} {params : Arguments} {body : List Stmt} {scope : Scope} {kws : List (Str × V)} {f : Addr} {fd : FuncData} {ps ks : List Str} {π : List Nat} {k : Nat} {m : List D → Mem → Res D} (F : FunD K x qual params body scope [] kws f fd) (g : mg x = some (.ref f))
    (b : ∀ (kV doc pm : Value) (an : Option Addr) (cdv ct : Value) (ws : List Value), ws.length = ks.length → bindArgs (PySem.W.fnOf x qual params body scope .none kV doc pm an cdv ct) ⟨[], ks.zip ws⟩ = pure (ps.zip (π.filterMap fun i => ws[i]?))) (hπ : ∀ i ∈ π, i < ks.length)
    (G : FnG gd P wd K mg base k f fd ps (spD K mg ps.length m)) : DefK gd P wd K mg base x ps k m ks 0 π := by
  refine ⟨f, fd, g, F.kp, ⟨fun s us ws _ hu hw => ?_, fun i hi => by have := hπ i hi; omega⟩, G⟩
  obtain ⟨oc, od, dV, kV, doc, pm, an, cdv, ct, osl, rfl, lk, hcd, hD, hK⟩ := F.ex
  rcases hD with ⟨_, rfl⟩ | ⟨e, _⟩
  · cases us with
    | nil => exact .of_eq (b kV doc pm an cdv ct ws hw)
    | cons u us => simp at hu
  · exact absurd rfl e
/-- what the end needs of the law's own def -/
theorem binds1 {K : PySem.W.Frag} {x qual p : Str} {params : Arguments} {body : List Stmt} {scope : Scope} {kws : List (Str × V)} {f : Addr} {fd : FuncData} (F : FunD K x qual params body scope [] kws f fd)
    (b : ∀ (kV doc pm : Value) (an : Option Addr) (cdv ct : Value) (us : List Value), us.length = [p].length → bindArgs (PySem.W.fnOf x qual params body scope .none kV doc pm an cdv ct) ⟨us, []⟩ = pure ([p].zip us)) (s : Shared) (u : Value) : BindsTo s fd ⟨[u], []⟩ [(p, u)] := FunD.bindsA F b s [u] rfl
/-- the code object of a def that makes lambdas -/
theorem code_of {K : PySem.W.Frag} {x qual : Str} {params : Arguments} {body : List Stmt} {scope : Scope} {dvs : List V} {kws : List (Str × V)} {fd : FuncData} {c P : Addr} {h : Heap} {mg : Str → Option Value} {f : Addr} (kin : K.In h) (g : h.Ns mainGlobals mg) (F : FunD K x qual params body scope dvs kws f fd) (hm : mg x = some (.ref f)) (ht : PySem.W.tabIn K x = some (c, P)) : fd.code = .ref c := by
  obtain ⟨oc, od, dV, kV, doc, pm, an, cdv, ct, osl, rfl, lk, hcd, hD, hK⟩ := F.ex
  exact PySem.W.law_code kin g ht hm (kin _ _ lk) rfl
/-- the facts of an own exception class, by booleans -/
def xbB (C i : Str) (K : PySem.W.Frag) : Bool :=
  PySem.W.excInitIn K (He.ga K C) XB.exTail "Exception.__new__" && (PySem.W.excOver K (He.ga K C) XB.exTail && (He.eqO (PySem.W.findIn K (.ref (He.ga K C)) "__setattr__") (some (some (.builtin "object.__setattr__"))) && (He.eqO (PySem.W.findIn K (.ref (He.ga K C)) "__getattribute__") (some (some (.builtin "BaseException.__getattribute__"))) &&
  (He.eqO (PySem.W.findIn K (.ref (He.ga K C)) "__getattr__") (some none) && (decide (PySem.W.takerIn K (He.ga K C) "thing" = some none) && (He.eqO (PySem.W.findIn K (.ref (He.ga K C)) "thing") (some none) && (He.eqO (PySem.W.findIn K (.ref (He.ga K C)) "__init__") (some (some (.ref (He.ma K (He.ga K C) "__init__")))) &&
  (decide (PySem.W.typeIn K (.ref (He.ma K (He.ga K C) "__init__")) = some (.type "function")) && (PySem.W.keepIn K (.ref (He.ga K C)) && (PySem.W.hasDictIn K (He.ga K C) && (decide (PySem.W.subIn K (.ref (He.ga K C)) (.type "BaseException") = some true) && decide (PySem.W.typeIn K (.ref (He.ga K C)) = some (.type "type")))))))))))))
theorem xb_of {K : PySem.W.Frag} {mg : Str → Option Value} {C i qual : Str} {par : Arguments} {sc : Scope} {fd : FuncData} {q1 q2 q3 q4 : Pos} (h : xbB C i K = true) (g : mg C = some (.ref (He.ga K C)))
    (F : FunD K "__init__" qual par [.Assign [.Attribute (.Name "self" q1) "thing" q2] (.Name "thing" q3) q4] sc [] [] (He.ma K (He.ga K C) "__init__") fd) (s1 : sc.kind = .function) (s2 : sc.isCoroutine = false) (s3 : sc.isGenerator = false) (s4 : sc.names = [(PySem.Str.ofString "self", .local), (PySem.Str.ofString "thing", .local)])
    (b : ∀ (kV doc pm : Value) (an : Option Addr) (cdv ct : Value) (us : List Value), us.length = 2 → bindArgs (PySem.W.fnOf "__init__" qual par [.Assign [.Attribute (.Name "self" q1) "thing" q2] (.Name "thing" q3) q4] sc .none kV doc pm an cdv ct) ⟨us, []⟩ = pure ([("self" : Str), "thing"].zip us)) : XB.Txt K mg C (He.ga K C) (He.ma K (He.ga K C) "__init__") := by
  unfold xbB at h
  obtain ⟨h1, h⟩ := Bool.and_eq_true_iff.mp h
  obtain ⟨h2, h⟩ := Bool.and_eq_true_iff.mp h
  obtain ⟨h3, h⟩ := Bool.and_eq_true_iff.mp h
  obtain ⟨h4, h⟩ := Bool.and_eq_true_iff.mp h
  obtain ⟨h5, h⟩ := Bool.and_eq_true_iff.mp h
  obtain ⟨h6, h⟩ := Bool.and_eq_true_iff.mp h
  obtain ⟨h7, h⟩ := Bool.and_eq_true_iff.mp h
  obtain ⟨h8, h⟩ := Bool.and_eq_true_iff.mp h
  obtain ⟨h9, h⟩ := Bool.and_eq_true_iff.mp h
  obtain ⟨h10, h⟩ := Bool.and_eq_true_iff.mp h
  obtain ⟨h11, h⟩ := Bool.and_eq_true_iff.mp h
  obtain ⟨h12, h13⟩ := Bool.and_eq_true_iff.mp h
  obtain ⟨oc, od, dV, kV, doc, pm, an, cdv, ct, osl, rfl, lk, hcd, hD, hK⟩ := F.ex
  rcases hD with ⟨_, rfl⟩ | ⟨e, _⟩
  · exact ⟨g, h1, h2, He.eqO_ok h3, He.eqO_ok h4, He.eqO_ok h5, of_decide_eq_true h6, He.eqO_ok h7, He.eqO_ok h8, of_decide_eq_true h9, h10, h11, of_decide_eq_true h12, of_decide_eq_true h13,
      ⟨oc, od, qual, par, sc, .none, kV, doc, pm, an, cdv, ct, osl, q1, q2, q3, q4, lk, hcd, s1, s2, s3, s4, fun us hl => b kV doc pm an cdv ct us hl⟩⟩
  · exact absurd rfl e
/-- .. for isinstance of a held one -/
def kitEB (C : Str) (K : PySem.W.Frag) : Bool :=
  (PySem.W.clsIn K (He.ga K C)).isSome && (He.eqO (PySem.W.findIn K (.ref (He.ga K C)) "__class__") (some (some (.builtin "object.__class__"))) && (He.eqO (PySem.W.specialIn K (.builtin "object.__class__") "__get__") (some (some (.builtin "getset_descriptor.__get__"))) &&
  (decide (PySem.W.takesIn K (.builtin "object.__class__") = some true) && decide (PySem.W.mroIn K (He.ga K C) (.type "object") = some true))))
theorem kitE_of {K : PySem.W.Frag} {mg : Str → Option Value} {C : Str} {fI : Addr} (h : kitEB C K = true) (T : XB.Txt K mg C (He.ga K C) fI) : KitE K (He.ga K C) := by
  unfold kitEB at h
  obtain ⟨h1, h⟩ := Bool.and_eq_true_iff.mp h
  obtain ⟨h2, h⟩ := Bool.and_eq_true_iff.mp h
  obtain ⟨h3, h⟩ := Bool.and_eq_true_iff.mp h
  obtain ⟨h4, h5⟩ := Bool.and_eq_true_iff.mp h
  exact ⟨h1, T.ga, T.gg, T.sb, He.eqO_ok h2, He.eqO_ok h3, of_decide_eq_true h4, of_decide_eq_true h5⟩
theorem xfC_of {K : PySem.W.Frag} {mg : Str → Option Value} {C : Str} {c fI : Addr} (T : XB.Txt K mg C c fI) : XfC K c := ⟨T.ga, T.gg, T.sb, T.hd⟩
def exmB (C D : Str) (b : Bool) (K : PySem.W.Frag) : Bool := decide (PySem.W.exmOne K (.ref (He.ga K C)) (.ref (He.ga K D)) = some b)
def kitB (C D : Str) (b : Bool) (K : PySem.W.Frag) : Bool := decide (PySem.W.kitOne K (.ref (He.ga K C)) (.ref (He.ga K D)) = some b)
def gloB (x : Str) (id : String) (K : PySem.W.Frag) : Bool := He.eqO (PySem.W.nsIn K mainGlobals x) (some (some (.builtin id)))
theorem gloB_ok {K : PySem.W.Frag} {h : Heap} {mg : Str → Option Value} {x : Str} {id : String} (kin : K.In h) (g : h.Ns mainGlobals mg) (c : gloB x id K = true) : mg x = some (.builtin id) := PySem.W.mg_of kin g (He.eqO_ok c)
end DL
namespace NT
theorem pow_inj {a b n : Nat} (hn : n ≠ 0) (h : a ^ n = b ^ n) : a = b := by
  rcases Nat.lt_trichotomy a b with q | q | q
  · have := Nat.pow_lt_pow_left q hn
    omega
  · exact q
  · have := Nat.pow_lt_pow_left q hn
    omega
/-- two powers by exponents without a common divisor -/
theorem pow_split : ∀ (s u v : Nat) {a b : Nat}, u + v ≤ s → Nat.Coprime u v → 0 < a → 0 < b → a ^ u = b ^ v → ∃ c, a = c ^ v ∧ b = c ^ u := by
  intro s
  induction s with
  | zero =>
    intro u v a b hs hc ha hb e
    have hu : u = 0 := by omega
    have hv : v = 0 := by omega
    subst hu hv
    simp at hc
  | succ s ih =>
    intro u v a b hs hc ha hb e
    by_cases hv : v = 0
    · subst hv
      have hu : u = 1 := by simpa using hc
      subst hu
      refine ⟨b, ?_, by simp⟩
      simpa using e
    by_cases hu : u = 0
    · subst hu
      have hv1 : v = 1 := by simpa using hc
      subst hv1
      refine ⟨a, by simp, ?_⟩
      simpa using e.symm
    rcases Nat.le_total v u with hle | hle
    · obtain ⟨r, rfl⟩ := Nat.exists_eq_add_of_le hle
      have hc' : Nat.Coprime r v := by
        have : Nat.gcd (v + r) v = 1 := hc
        rwa [Nat.add_comm, Nat.gcd_add_self_left] at this
      have hd : a ∣ b := by
        refine (Nat.pow_dvd_pow_iff hv).mp ⟨a ^ r, ?_⟩
        rw [← e, Nat.pow_add]
      obtain ⟨m, rfl⟩ := hd
      have hm : 0 < m := Nat.pos_of_ne_zero fun z => by simp [z] at hb
      have e2 : a ^ r = m ^ v := by
        rw [Nat.pow_add, Nat.mul_pow] at e
        exact Nat.eq_of_mul_eq_mul_left (Nat.pow_pos ha) e
      obtain ⟨c, h1, h2⟩ := ih r v (by omega) hc' ha hm e2
      refine ⟨c, h1, ?_⟩
      rw [h2, Nat.pow_add]
      conv => lhs; rw [h1]
    · obtain ⟨r, rfl⟩ := Nat.exists_eq_add_of_le hle
      have hc' : Nat.Coprime u r := by
        have : Nat.gcd u (u + r) = 1 := hc
        rwa [Nat.gcd_comm, Nat.add_comm, Nat.gcd_add_self_left, Nat.gcd_comm] at this
      have hd : b ∣ a := by
        refine (Nat.pow_dvd_pow_iff hu).mp ⟨b ^ r, ?_⟩
        rw [e, Nat.pow_add]
      obtain ⟨m, rfl⟩ := hd
      have hm : 0 < m := Nat.pos_of_ne_zero fun z => by simp [z] at ha
      have e2 : m ^ u = b ^ r := by
        rw [Nat.pow_add, Nat.mul_pow] at e
        exact Nat.eq_of_mul_eq_mul_left (Nat.pow_pos hb) e
      obtain ⟨c, h1, h2⟩ := ih u r (by omega) hc' hm hb e2
      refine ⟨c, ?_, h2⟩
      rw [h1, Nat.pow_add]
      conv => lhs; rw [h2]
def Pw (p n : Nat) : Prop := ∃ a, a ^ p = n
/-- in lowest form: no root of both can be drawn -/
def Red (n d k : Nat) : Prop := ∀ p, 2 ≤ p → p ∣ k → Pw p n → Pw p d → False
theorem red_one {n d : Nat} : Red n d 1 := fun p hp hd _ _ => by
  have := Nat.le_of_dvd (by omega) hd
  omega
theorem red_unique {n1 d1 k1 g1 n2 d2 k2 g2 : Nat} (r1 : Red n1 d1 k1) (r2 : Red n2 d2 k2) (hn1 : 0 < n1) (hn2 : 0 < n2) (hd1 : 0 < d1) (hd2 : 0 < d2) (hg1 : 0 < g1) (hg2 : 0 < g2) (hk1 : 0 < k1) (hk2 : 0 < k2)
    (en : n1 ^ g1 = n2 ^ g2) (ed : d1 ^ g1 = d2 ^ g2) (ek : k1 * g1 = k2 * g2) : n1 = n2 ∧ d1 = d2 ∧ k1 = k2 := by
  have hh : 0 < Nat.gcd g1 g2 := Nat.gcd_pos_of_pos_left _ hg1
  obtain ⟨u, hu⟩ := Nat.gcd_dvd_left g1 g2
  obtain ⟨v, hv⟩ := Nat.gcd_dvd_right g1 g2
  have hc : Nat.Coprime u v := by
    have e : Nat.gcd g1 g2 * Nat.gcd u v = Nat.gcd g1 g2 * 1 := by
      rw [← Nat.gcd_mul_left, ← hu, ← hv, Nat.mul_one]
    exact Nat.eq_of_mul_eq_mul_left hh e
  generalize Nat.gcd g1 g2 = h at hh hu hv
  subst hu hv
  have hu0 : 0 < u := Nat.pos_of_ne_zero fun z => by simp [z] at hg1
  have hv0 : 0 < v := Nat.pos_of_ne_zero fun z => by simp [z] at hg2
  have en' : n1 ^ u = n2 ^ v := pow_inj (n := h) (by omega) (by rw [← Nat.pow_mul, ← Nat.pow_mul, Nat.mul_comm u, Nat.mul_comm v]; exact en)
  have ed' : d1 ^ u = d2 ^ v := pow_inj (n := h) (by omega) (by rw [← Nat.pow_mul, ← Nat.pow_mul, Nat.mul_comm u, Nat.mul_comm v]; exact ed)
  obtain ⟨c, c1, c2⟩ := pow_split _ u v (Nat.le_refl _) hc hn1 hn2 en'
  obtain ⟨e, e1, e2⟩ := pow_split _ u v (Nat.le_refl _) hc hd1 hd2 ed'
  have ek' : k1 * u = k2 * v := by
    have : h * (k1 * u) = h * (k2 * v) := by
      rw [Nat.mul_left_comm, Nat.mul_left_comm h k2]
      exact ek
    exact Nat.eq_of_mul_eq_mul_left hh this
  have hvk : v ∣ k1 := Nat.Coprime.dvd_of_dvd_mul_right hc.symm ⟨k2, by rw [ek', Nat.mul_comm]⟩
  have huk : u ∣ k2 := Nat.Coprime.dvd_of_dvd_mul_right hc ⟨k1, by rw [← ek', Nat.mul_comm]⟩
  have v1 : v = 1 := by
    by_cases q : 2 ≤ v
    · exact (r1 v q hvk ⟨c, c1.symm⟩ ⟨e, e1.symm⟩).elim
    · omega
  have u1 : u = 1 := by
    by_cases q : 2 ≤ u
    · exact (r2 u q huk ⟨c, c2.symm⟩ ⟨e, e2.symm⟩).elim
    · omega
  subst v1 u1
  refine ⟨?_, ?_, ?_⟩
  · simpa using en'
  · simpa using ed'
  · simpa using ek'
theorem log_le {x k : Nat} (h : x ≤ 2 ^ k) : x.log2 ≤ k := by
  by_cases h0 : x = 0
  · subst h0
    simp
  · have : x.log2 < k + 1 := (Nat.log2_lt h0).mpr (Nat.lt_of_le_of_lt h (by rw [Nat.pow_succ]; have := Nat.pow_pos (n := k) (show 0 < 2 by decide); omega))
    omega
/-- what is no greater than the p-th power of two and a p-th power is 1 -/
theorem pw_small {p n : Nat} (hn : 0 < n) (h : n < 2 ^ p) (hp : p ≠ 0) (w : Pw p n) : n = 1 := by
  obtain ⟨a, rfl⟩ := w
  have ha : a < 2 := by
    rcases Nat.lt_or_ge a 2 with q | q
    · exact q
    · have := Nat.pow_le_pow_left q p
      omega
  have : a ≠ 0 := fun z => by
    subst z
    rw [Nat.zero_pow (Nat.pos_of_ne_zero hp)] at hn
    omega
  have e : a = 1 := by omega
  rw [e, Nat.one_pow]
/-- the floor of a root: there is but one -/
theorem root_unique {p n r s : Nat} (h1 : r ^ p ≤ n) (h2 : n < (r + 1) ^ p) (h3 : s ^ p ≤ n) (h4 : n < (s + 1) ^ p) : r = s := by
  rcases Nat.lt_trichotomy r s with q | q | q
  · have := Nat.pow_le_pow_left (show r + 1 ≤ s from q) p
    omega
  · exact q
  · have := Nat.pow_le_pow_left (show s + 1 ≤ r from q) p
    omega
theorem root_pw {p n r : Nat} (hp : p ≠ 0) (h1 : r ^ p ≤ n) (h2 : n < (r + 1) ^ p) : Pw p n ↔ r ^ p = n := by
  refine ⟨fun ⟨a, e⟩ => ?_, fun e => ⟨r, e⟩⟩
  have : a = r := root_unique (n := n) (Nat.le_of_eq e) (by rw [← e]; exact Nat.pow_lt_pow_left (Nat.lt_succ_self a) hp) h1 h2
  rw [← this]
  exact e
end NT
namespace NT
/-- x ^ e = n, y ^ e = d, z * e = k, and no root of both can be drawn -/
def LowN (n d k x y z : Nat) : Prop := 0 < x ∧ 0 < y ∧ 0 < z ∧ Red x y z ∧ ∃ e, 0 < e ∧ x ^ e = n ∧ y ^ e = d ∧ z * e = k
/-- a positive value in its own form -/
structure Vl (x y z : Nat) : Prop where
  x0 : 0 < x
  y0 : 0 < y
  z0 : 0 < z
  co : Nat.Coprime x y
  rd : Red x y z
/-- the K-th power of the value is p / q -/
def Ev (K x y z p q : Nat) : Prop := ∃ e, z * e = K ∧ p * y ^ e = q * x ^ e
theorem cop_eqN {x y z w : Nat} (h1 : Nat.Coprime x y) (h2 : Nat.Coprime z w) (hx : 0 < x) (hz : 0 < z) (e : x * w = z * y) : x = z ∧ w = y := by
  have d1 : x ∣ z := h1.dvd_of_dvd_mul_right ⟨w, e.symm⟩
  have d2 : z ∣ x := h2.dvd_of_dvd_mul_right ⟨y, e⟩
  have e1 := Nat.dvd_antisymm d1 d2
  subst e1
  exact ⟨rfl, Nat.eq_of_mul_eq_mul_left hx e⟩
theorem cross {p q a b c d : Nat} (hp : 0 < p) (hq : 0 < q) (h1 : p * b = q * a) (h2 : p * d = q * c) : a * d = c * b := by
  have : p * (q * (a * d)) = p * (q * (c * b)) := by
    calc p * (q * (a * d)) = (q * a) * (p * d) := by
          simp only [Nat.mul_assoc, Nat.mul_left_comm, Nat.mul_comm]
      _ = (p * b) * (q * c) := by rw [← h1, h2]
      _ = p * (q * (c * b)) := by simp only [Nat.mul_assoc, Nat.mul_left_comm, Nat.mul_comm]
  exact Nat.eq_of_mul_eq_mul_left hq (Nat.eq_of_mul_eq_mul_left hp this)
theorem Ev.unique {K x y z x' y' z' p q : Nat} (hK : 0 < K) (hp : 0 < p) (hq : 0 < q) (v : Vl x y z) (v' : Vl x' y' z') (h : Ev K x y z p q) (h' : Ev K x' y' z' p q) : x = x' ∧ y = y' ∧ z = z' := by
  obtain ⟨e, he, h1⟩ := h
  obtain ⟨e', he', h1'⟩ := h'
  have e0 : 0 < e := Nat.pos_of_ne_zero fun w => by subst w; simp at he; omega
  have e0' : 0 < e' := Nat.pos_of_ne_zero fun w => by subst w; simp at he'; omega
  have c := cross hp hq h1 h1'
  obtain ⟨a1, a2⟩ := cop_eqN (Nat.Coprime.pow e e v.co) (Nat.Coprime.pow e' e' v'.co) (Nat.pow_pos v.x0) (Nat.pow_pos v'.x0) c
  exact red_unique v.rd v'.rd v.x0 v'.x0 v.y0 v'.y0 e0 e0' v.z0 v'.z0 a1 a2.symm (he.trans he'.symm)
theorem Ev.self {K x y z e : Nat} (h : z * e = K) : Ev K x y z (x ^ e) (y ^ e) := ⟨e, h, Nat.mul_comm _ _⟩
theorem Ev.cast {K K' x y z p q p' q' : Nat} (h : Ev K x y z p q) (hK : K = K') (hp : p = p') (hq : q = q') : Ev K' x y z p' q' := by
  subst hK hp hq
  exact h
/-- a fraction may be told in any terms -/
theorem Ev.terms {K x y z p q p' q' : Nat} (hq : 0 < q) (hp : 0 < p) (h : Ev K x y z p q) (c : p * q' = q * p') : Ev K x y z p' q' := by
  obtain ⟨e, he, h1⟩ := h
  refine ⟨e, he, ?_⟩
  -- p y = q x, p q' = q p'
  have := cross hp hq c h1
  -- p' * y = x * q'
  rw [this, Nat.mul_comm]
theorem Low.vl {n d k x y z : Nat} (hc : Nat.Coprime n d) (h : LowN n d k x y z) : Vl x y z := by
  obtain ⟨h1, h2, h3, h4, e, e0, e1, e2, e3⟩ := h
  refine ⟨h1, h2, h3, ?_, h4⟩
  subst e1 e2
  exact Nat.Coprime.coprime_dvd_left ⟨x ^ (e - 1), by rw [← Nat.pow_succ']; congr 1; omega⟩ (Nat.Coprime.coprime_dvd_right ⟨y ^ (e - 1), by rw [← Nat.pow_succ']; congr 1; omega⟩ hc)
theorem cop_div {n d : Nat} (hn : 0 < n) : Nat.Coprime (n / Nat.gcd n d) (d / Nat.gcd n d) := Nat.coprime_div_gcd_div_gcd (Nat.gcd_pos_of_pos_left _ hn)
/-- what lowest tells of n / d under the root k -/
theorem Low.ev {n d k x y z : Nat} (hn : 0 < n) (h : LowN (n / Nat.gcd n d) (d / Nat.gcd n d) k x y z) (t : Nat) : Ev (k * t) x y z (n ^ t) (d ^ t) := by
  obtain ⟨h1, h2, h3, h4, e, e0, e1, e2, e3⟩ := h
  refine ⟨e * t, by rw [← Nat.mul_assoc, e3], ?_⟩
  rw [Nat.pow_mul, Nat.pow_mul, e1, e2, ← Nat.mul_pow, ← Nat.mul_pow]
  congr 1
  have g := Nat.gcd_dvd_left n d
  have g' := Nat.gcd_dvd_right n d
  have hg := Nat.gcd_pos_of_pos_left d hn
  generalize Nat.gcd n d = G at *
  obtain ⟨a, rfl⟩ := g
  obtain ⟨b, rfl⟩ := g'
  rw [Nat.mul_div_cancel_left _ hg, Nat.mul_div_cancel_left _ hg]
  simp only [Nat.mul_assoc, Nat.mul_left_comm, Nat.mul_comm]
theorem Low.vl2 {n d k x y z : Nat} (hn : 0 < n) (h : LowN (n / Nat.gcd n d) (d / Nat.gcd n d) k x y z) : Vl x y z := Low.vl (cop_div hn) h
theorem Low.bd {n d k x y z : Nat} (hn : 0 < n) (hd : 0 < d) (h : LowN (n / Nat.gcd n d) (d / Nat.gcd n d) k x y z) : x ≤ n ∧ y ≤ d ∧ z ≤ k ∧ 0 < k := by
  obtain ⟨h1, h2, h3, h4, e, e0, e1, e2, e3⟩ := h
  have l : ∀ {a : Nat}, 0 < a → a ≤ a ^ e := fun {a} ha => by
    have := Nat.pow_le_pow_right ha e0
    rwa [Nat.pow_one] at this
  refine ⟨Nat.le_trans (l h1) (by rw [e1]; exact Nat.div_le_self _ _), Nat.le_trans (l h2) (by rw [e2]; exact Nat.div_le_self _ _), ?_, ?_⟩
  · rw [← e3]
    exact Nat.le_mul_of_pos_right z e0
  · rw [← e3]
    exact Nat.mul_pos h3 e0
/-- products -/
theorem Ev.mul {K n d k x y z a b c a' b' c' p q p' q' : Nat} (va : Vl a b c) (vb : Vl a' b' c') (h : LowN (n / Nat.gcd n d) (d / Nat.gcd n d) k x y z) (hk : k = Nat.lcm c c')
    (hn : n = a ^ (k / c) * a' ^ (k / c')) (hd : d = b ^ (k / c) * b' ^ (k / c')) (h1 : Ev K a b c p q) (h2 : Ev K a' b' c' p' q') : Ev K x y z (p * p') (q * q') := by
  obtain ⟨e, he, h1⟩ := h1
  obtain ⟨e', he', h2⟩ := h2
  have dk : k ∣ K := by
    rw [hk]
    exact Nat.lcm_dvd ⟨e, he.symm⟩ ⟨e', he'.symm⟩
  obtain ⟨t, rfl⟩ := dk
  have dc : c ∣ k := by rw [hk]; exact Nat.dvd_lcm_left c c'
  have dc' : c' ∣ k := by rw [hk]; exact Nat.dvd_lcm_right c c'
  have n0 : 0 < n := by
    rw [hn]
    exact Nat.mul_pos (Nat.pow_pos va.x0) (Nat.pow_pos vb.x0)
  have d0 : 0 < d := by
    rw [hd]
    exact Nat.mul_pos (Nat.pow_pos va.y0) (Nat.pow_pos vb.y0)
  have ev := Low.ev n0 h t
  obtain ⟨u, rfl⟩ := dc
  have eu : e = u * t := Nat.eq_of_mul_eq_mul_left va.z0 (by rw [he, Nat.mul_assoc])
  obtain ⟨w, ew⟩ := dc'
  have eu' : e' = w * t := Nat.eq_of_mul_eq_mul_left vb.z0 (by rw [he', ew, Nat.mul_assoc])
  rw [Nat.mul_div_cancel_left _ va.z0] at hn hd
  rw [ew, Nat.mul_div_cancel_left _ vb.z0] at hn hd
  refine ev.terms (Nat.pow_pos d0) (Nat.pow_pos n0) ?_
  rw [hn, hd, Nat.mul_pow, Nat.mul_pow, ← Nat.pow_mul, ← Nat.pow_mul, ← Nat.pow_mul, ← Nat.pow_mul, ← eu, ← eu']
  calc a ^ e * a' ^ e' * (q * q') = (q * a ^ e) * (q' * a' ^ e') := by simp only [Nat.mul_assoc, Nat.mul_left_comm, Nat.mul_comm]
    _ = (p * b ^ e) * (p' * b' ^ e') := by rw [h1, h2]
    _ = b ^ e * b' ^ e' * (p * p') := by simp only [Nat.mul_assoc, Nat.mul_left_comm, Nat.mul_comm]
/-- powers n / m, by any terms of the exponent -/
theorem Ev.pow {K n d k x y z a b c p q u m g : Nat} (va : Vl a b c) (h : LowN (n / Nat.gcd n d) (d / Nat.gcd n d) k x y z) (hn : n = a ^ u) (hd : d = b ^ u) (hk : k = c * m)
    (h1 : Ev K a b c p q) : Ev (K * (m * g)) x y z (p ^ (u * g)) (q ^ (u * g)) := by
  obtain ⟨e, rfl, h1⟩ := h1
  have n0 : 0 < n := by
    rw [hn]
    exact Nat.pow_pos va.x0
  have d0 : 0 < d := by
    rw [hd]
    exact Nat.pow_pos va.y0
  have ev := Low.ev n0 h (e * g)
  refine (ev.cast (by rw [hk]; simp only [Nat.mul_assoc, Nat.mul_left_comm, Nat.mul_comm]) rfl rfl).terms (Nat.pow_pos d0) (Nat.pow_pos n0) ?_
  rw [hn, hd, ← Nat.pow_mul, ← Nat.pow_mul, show u * (e * g) = e * (u * g) by simp only [Nat.mul_assoc, Nat.mul_left_comm, Nat.mul_comm], show a ^ (e * (u * g)) = (a ^ e) ^ (u * g) from Nat.pow_mul .., show b ^ (e * (u * g)) = (b ^ e) ^ (u * g) from Nat.pow_mul .., ← Nat.mul_pow, ← Nat.mul_pow]
  congr 1
  rw [Nat.mul_comm, ← h1, Nat.mul_comm]
theorem Ev.scale {K x y z p q : Nat} (t : Nat) (h : Ev K x y z p q) : Ev (K * t) x y z (p ^ t) (q ^ t) := by
  obtain ⟨e, rfl, h1⟩ := h
  refine ⟨e * t, by rw [Nat.mul_assoc], ?_⟩
  rw [Nat.pow_mul, Nat.pow_mul, ← Nat.mul_pow, ← Nat.mul_pow, h1]
/-- the inverse -/
theorem Ev.inv {K x y z p q : Nat} (h : Ev K x y z p q) : Ev K y x z q p := by
  obtain ⟨e, he, h1⟩ := h
  exact ⟨e, he, h1.symm⟩
theorem Red.swap {x y z : Nat} (h : Red x y z) : Red y x z := fun p h1 h2 a b => h p h1 h2 b a
theorem Vl.inv {x y z : Nat} (h : Vl x y z) : Vl y x z := ⟨h.y0, h.x0, h.z0, h.co.symm, h.rd.swap⟩
theorem Vl.one : Vl 1 1 1 := ⟨by omega, by omega, by omega, rfl, red_one⟩
theorem Ev.one (K : Nat) : Ev K 1 1 1 1 1 := ⟨K, Nat.one_mul K, rfl⟩
end NT
namespace DL
open PySem PySem.Spec
/-! ### loops -/
theorem while_rule {c : Env → Mem → Res Bool} {b : SD} (I : Nat → Env → Mem → Prop) (R : SR → Prop)
    (step : ∀ m ρ M, I m ρ M → (c ρ M = .ok false M ∧ R (.nx ρ M)) ∨ (c ρ M = .ok true M ∧ ((∃ m' ρ' M', m' < m ∧ b ρ M = .nx ρ' M' ∧ I m' ρ' M') ∨ (∃ d M', b ρ M = .rt d M' ∧ R (.rt d M'))))) :
    ∀ (n m : Nat) (ρ : Env) (M : Mem), m < n → I m ρ M → R (sWhile n c b ρ M) := by
  intro n
  induction n with
  | zero => intro m ρ M h _; omega
  | succ n ih =>
    intro m ρ M h hI
    unfold sWhile
    rcases step m ρ M hI with ⟨e, r⟩ | ⟨e, ⟨m', ρ', M', hm, eb, hI'⟩ | ⟨d, M', eb, r⟩⟩
    · rw [e]
      exact r
    · rw [e]
      show R (match b ρ M with | .nx ρ' M' => sWhile n c b ρ' M' | .ct ρ' M' => sWhile n c b ρ' M' | .bk ρ' M' => .nx ρ' M' | r => r)
      rw [eb]
      exact ih m' ρ' M' (by omega) hI'
    · rw [e]
      show R (match b ρ M with | .nx ρ' M' => sWhile n c b ρ' M' | .ct ρ' M' => sWhile n c b ρ' M' | .bk ρ' M' => .nx ρ' M' | r => r)
      rw [eb]
      exact r
theorem for_rule {p : Pat} {b : SD} (I : List D → Env → Mem → Prop) (R : SR → Prop)
    (step : ∀ d r ρ M, I (d :: r) ρ M → ∃ ρ1, p.asg d ρ = some ρ1 ∧ ((∃ ρ' M', (b ρ1 M = .nx ρ' M' ∨ b ρ1 M = .ct ρ' M') ∧ I r ρ' M') ∨ (∃ d' M', b ρ1 M = .rt d' M' ∧ R (.rt d' M')))) (fin : ∀ ρ M, I [] ρ M → R (.nx ρ M)) :
    ∀ (l : List D) (ρ : Env) (M : Mem), I l ρ M → R (forL p b l ρ M) := by
  intro l
  induction l with
  | nil => intro ρ M h; exact fin ρ M h
  | cons d r ih =>
    intro ρ M h
    obtain ⟨ρ1, e1, ⟨ρ', M', eb, hI⟩ | ⟨d', M', eb, hR⟩⟩ := step d r ρ M h
    · unfold forL
      rw [e1]
      dsimp only
      rcases eb with eb | eb <;> rw [eb] <;> exact ih ρ' M' hI
    · unfold forL
      rw [e1]
      dsimp only
      rw [eb]
      exact hR
/-! ### whole numbers -/
theorem shaped_int (i : Int) : SeqAt.shaped (.int i) = true := by
  first
    | rfl
    | simp [SeqAt.shaped, PyData.canLay0, PyData.depth]
theorem eqv_int (i j : Int) : PyData.eqv (.int i) (.int j) = decide (i = j) := by
  first
    | rfl
    | simp [PyData.eqv]
theorem eq_ii (i j : Int) (M : Mem) : eqD (.int i) (.int j) M = .ok (.bl (decide (i = j))) M := by
  show (if SeqAt.shaped (.int i) = true ∧ SeqAt.shaped (.int j) = true then Res.ok (D.bl (PyData.eqv (.int i) (.int j))) M else .bad) = _
  rw [if_pos ⟨shaped_int i, shaped_int j⟩, eqv_int]
theorem ne_ii (i j : Int) (M : Mem) : neD (.int i) (.int j) M = .ok (.bl (!decide (i = j))) M := by
  show (if SeqAt.shaped (.int i) = true ∧ SeqAt.shaped (.int j) = true then Res.ok (D.bl (!PyData.eqv (.int i) (.int j))) M else .bad) = _
  rw [if_pos ⟨shaped_int i, shaped_int j⟩, eqv_int]
theorem mul_nn {a b : Nat} (M : Mem) (h : a.log2 + b.log2 < 1000000) : mulI (.int (a : Int)) (.int (b : Int)) M = .ok (.int ((a * b : Nat) : Int)) M := by
  show (if mulOk (a : Int) (b : Int) = true then Res.ok (D.int ((a : Int) * (b : Int))) M else .bad) = _
  rw [if_pos (by unfold mulOk; exact decide_eq_true (by simpa using h)), Int.natCast_mul]
theorem div_nn {a b : Nat} (M : Mem) (hb : 0 < b) (h : b.log2 < 9000) : divD (.int (a : Int)) (.int (b : Int)) M = .ok (.int ((a / b : Nat) : Int)) M := by
  show (if divOk (a : Int) (b : Int) = true then Res.ok (D.int ((a : Int).fdiv (b : Int))) M else .bad) = _
  rw [if_pos (by
    unfold divOk
    rw [decide_eq_true (show (0 : Int) < (b : Int) by omega), decide_eq_true (show ((b : Int)).natAbs.log2 < 9000 by simpa using h)]
    rfl), Int.fdiv_eq_ediv_of_nonneg _ (by omega), Int.natCast_ediv]
theorem mod_nn {a b : Nat} (M : Mem) (hb : 0 < b) : modD (.int (a : Int)) (.int (b : Int)) M = .ok (.int ((a % b : Nat) : Int)) M := by
  show (if decide ((b : Int) ≠ 0) = true then Res.ok (D.int ((a : Int).fmod (b : Int))) M else .bad) = _
  rw [if_pos (decide_eq_true (by omega)), Int.fmod_eq_emod_of_nonneg _ (by omega), Int.natCast_emod]
theorem gt_ii (i j : Int) (M : Mem) : gtD (.int i) (.int j) M = .ok (.bl (decide (j < i))) M := rfl
theorem lt_ii (i j : Int) (M : Mem) : ltD (.int i) (.int j) M = .ok (.bl (decide (i < j))) M := rfl
theorem le_ii (i j : Int) (M : Mem) : leD (.int i) (.int j) M = .ok (.bl (decide (i ≤ j))) M := rfl
theorem ge_ii (i j : Int) (M : Mem) : geD (.int i) (.int j) M = .ok (.bl (decide (j ≤ i))) M := rfl
theorem add_ii (i j : Int) (M : Mem) : addD (.int i) (.int j) M = .ok (.int (i + j)) M := rfl
theorem sub_ii (i j : Int) (M : Mem) : subD (.int i) (.int j) M = .ok (.int (i - j)) M := rfl
end DL
namespace DL
open PySem PySem.Spec
theorem rangeD_cons (lo : Int) (n : Nat) : rangeD lo (n + 1) = .int lo :: rangeD (lo + 1) n := by
  unfold rangeD
  rw [List.range_succ_eq_map, List.map_cons, List.map_map]
  congr 1
  · simp
  · refine List.map_congr_left fun i _ => ?_
    show D.int (lo + ((i + 1 : Nat) : Int)) = D.int (lo + 1 + (i : Int))
    congr 1
    omega
theorem rangeD_snoc (lo : Int) (n : Nat) : rangeD lo (n + 1) = rangeD lo n ++ [.int (lo + n)] := by
  unfold rangeD
  rw [List.range_succ, List.map_append]
  rfl
theorem range_rule {p : Pat} {b : SD} (lo : Int) (N : Nat) (I : Nat → Env → Mem → Prop) (R : SR → Prop)
    (step : ∀ i ρ M, i < N → I i ρ M → ∃ ρ1, p.asg (.int (lo + (i : Int))) ρ = some ρ1 ∧ ((∃ ρ' M', (b ρ1 M = .nx ρ' M' ∨ b ρ1 M = .ct ρ' M') ∧ I (i + 1) ρ' M') ∨ (∃ d' M', b ρ1 M = .rt d' M' ∧ R (.rt d' M')))) (fin : ∀ ρ M, I N ρ M → R (.nx ρ M)) (ρ : Env) (M : Mem) (h0 : I 0 ρ M) :
    R (forL p b (rangeD lo N) ρ M) := by
  have key : ∀ (n i : Nat) (ρ : Env) (M : Mem), i + n = N → I i ρ M → R (forL p b (rangeD (lo + (i : Int)) n) ρ M) := by
    intro n
    induction n with
    | zero =>
      intro i ρ M e h
      have : i = N := by omega
      subst this
      exact fin ρ M h
    | succ n ih =>
      intro i ρ M e h
      rw [rangeD_cons]
      obtain ⟨ρ1, e1, ⟨ρ', M', eb, hI⟩ | ⟨d', M', eb, hR⟩⟩ := step i ρ M (by omega) h
      · unfold forL
        rw [e1]
        dsimp only
        have e2 : lo + (i : Int) + 1 = lo + ((i + 1 : Nat) : Int) := by omega
        rcases eb with eb | eb <;> rw [eb, e2] <;> exact ih (i + 1) ρ' M' (by omega) hI
      · unfold forL
        rw [e1]
        dsimp only
        rw [eb]
        exact hR
  have := key N 0 ρ M (by omega) h0
  simpa using this
/-- .. from above -/
theorem down_rule {p : Pat} {b : SD} (I : Nat → Env → Mem → Prop) (R : SR → Prop)
    (step : ∀ i ρ M, I (i + 1) ρ M → ∃ ρ1, p.asg (.int (i : Int)) ρ = some ρ1 ∧ ∃ ρ' M', b ρ1 M = .nx ρ' M' ∧ I i ρ' M') (fin : ∀ ρ M, I 0 ρ M → R (.nx ρ M)) : ∀ (N : Nat) (ρ : Env) (M : Mem), I N ρ M → R (forL p b (rangeD 0 N).reverse ρ M) := by
  intro N
  induction N with
  | zero => intro ρ M h; exact fin ρ M h
  | succ n ih =>
    intro ρ M h
    rw [rangeD_snoc, List.reverse_append]
    obtain ⟨ρ1, e1, ρ', M', eb, hI⟩ := step n ρ M h
    show R (forL p b (.int (0 + (n : Int)) :: (rangeD 0 n).reverse) ρ M)
    rw [Int.zero_add]
    unfold forL
    rw [e1]
    dsimp only
    rw [eb]
    exact ih ρ' M' hI
end DL
namespace DL
open PySem PySem.Spec L2
/-! ### the laws' deck -/
theorem toPyL_ints : ∀ L : List Int, toPyL (L.map D.int) = some (L.map PyData.int)
  | [] => rfl
  | i :: L => by
    rw [List.map_cons, List.map_cons]
    simp only [toPyL, toPy, toPyL_ints L]
theorem lay_ints : ∀ L : List Int, PyData.canLayAll0 (L.map PyData.int) = true
  | [] => by simp [PyData.canLayAll0]
  | i :: L => by simp [PyData.canLayAll0, PyData.canLay0, lay_ints L]
theorem depth_ints : ∀ L : List Int, PyData.depthAll (L.map PyData.int) = 0
  | [] => by simp [PyData.depthAll]
  | i :: L => by simp [PyData.depthAll, PyData.depth, depth_ints L]
theorem shaped_ints (L : List Int) : SeqAt.shaped (.list (L.map PyData.int)) = true := by
  simp [SeqAt.shaped, PyData.canLay0, PyData.depth, lay_ints, depth_ints]
theorem eqv_nil (L : List Int) : PyData.eqv (.list (L.map PyData.int)) (.list []) = L.isEmpty := by
  cases L <;> simp [PyData.eqv, PyData.eqvAll]
theorem ne_left {M : Mem} {a : Nat} {L : List Int} (h : M[a]? = some (some (.lst (L.map D.int)))) : neD (.own a) (.lst []) M = .ok (.bl (!L.isEmpty)) M := by
  have e1 : toPyM (.own a) M = some (.list (L.map PyData.int)) := by
    unfold toPyM
    simp only [h, toPyL_ints]
    rfl
  have e2 : toPyM (.lst []) M = some (.list ([] : List PyData)) := rfl
  have e3 : SeqAt.shaped (.list ([] : List PyData)) = true := shaped_ints []
  unfold neD
  simp only [e1, e2]
  rw [if_pos ⟨shaped_ints L, e3⟩, eqv_nil]
def dk (a : Nat) (m d : Int) : List (Key × D) := [(.inr "left", .own a), (.inr "mixed", .int m), (.inr "draws", .int d)]
structure Dk (M : Mem) (a n c : Nat) : Prop where
  ne : a ≠ n
  ex : ∃ (L : List Int) (m d : Nat), M[a]? = some (some (.lst (L.map D.int))) ∧ M[n]? = some (some (.dct (dk a m d))) ∧ L.length ≤ 63 ∧ m < 2147483587 ∧ d ≤ c
/-- all but two objects stay -/
structure Sm (M M' : Mem) (a n : Nat) : Prop where
  len : M'.length = M.length
  at_ : ∀ i, i ≠ a → i ≠ n → M'[i]? = M[i]?
theorem Sm.refl (M : Mem) (a n : Nat) : Sm M M a n := ⟨rfl, fun _ _ _ => rfl⟩
theorem Sm.trans {M M1 M2 : Mem} {a n : Nat} (x : Sm M M1 a n) (y : Sm M1 M2 a n) : Sm M M2 a n := ⟨y.len.trans x.len, fun i h1 h2 => (y.at_ i h1 h2).trans (x.at_ i h1 h2)⟩
theorem key_ne1 : ¬ ((.inr "left" : Key) = .inr "draws") := by decide
theorem key_ne2 : ¬ ((.inr "mixed" : Key) = .inr "draws") := by decide
theorem key_ne3 : ¬ ((.inr "left" : Key) = .inr "mixed") := by decide
theorem dk_left (a : Nat) (m d : Int) : dGet (dk a m d) (.inr "left") = some (.own a) := by
  unfold dGet dk
  rw [List.find?_cons, decide_eq_true rfl]
  rfl
theorem dk_mixed (a : Nat) (m d : Int) : dGet (dk a m d) (.inr "mixed") = some (.int m) := by
  unfold dGet dk
  rw [List.find?_cons, decide_eq_false key_ne3, List.find?_cons, decide_eq_true rfl]
  rfl
theorem dk_draws (a : Nat) (m d : Int) : dGet (dk a m d) (.inr "draws") = some (.int d) := by
  unfold dGet dk
  rw [List.find?_cons, decide_eq_false key_ne1, List.find?_cons, decide_eq_false key_ne2, List.find?_cons, decide_eq_true rfl]
  rfl
theorem dk_put (a : Nat) (m d v : Int) : dPut (dk a m d) (.inr "draws") (.int v) = dk a m v := by
  unfold dPut
  rw [if_pos (by
    unfold dk
    rw [List.any_cons, List.any_cons, List.any_cons, decide_eq_true (rfl : (.inr "draws" : Key) = .inr "draws")]
    simp)]
  unfold dk
  simp only [List.map_cons, List.map_nil]
  rw [if_neg key_ne1, if_neg key_ne2, if_pos trivial]
theorem get_of {M : Mem} {n : Nat} {l : List (Key × D)} {k : Str} {d : D} (h : M[n]? = some (some (.dct l))) (e : dGet l (.inr k) = some d) : dgetD (.own n) (.str k) M = .ok d M := by
  unfold dgetD keyOf
  simp only [h, e]
  rfl
theorem div_in {a : Int} {b : Nat} (M : Mem) (hb : 0 < b) (h : b.log2 < 9000) : divD (.int a) (.int (b : Int)) M = .ok (.int (a.fdiv (b : Int))) M := by
  show (if divOk a (b : Int) = true then Res.ok (D.int (a.fdiv (b : Int))) M else .bad) = _
  rw [if_pos (by
    unfold divOk
    rw [decide_eq_true (show (0 : Int) < (b : Int) by omega), decide_eq_true (show ((b : Int)).natAbs.log2 < 9000 by simpa using h)]
    rfl)]
theorem mod_in {a : Int} {b : Nat} (M : Mem) (hb : 0 < b) : ∃ r : Nat, modD (.int a) (.int (b : Int)) M = .ok (.int (r : Int)) M ∧ r < b := by
  have h1 := Int.emod_nonneg a (show (b : Int) ≠ 0 by omega)
  have h2 := Int.emod_lt_of_pos a (show (0 : Int) < (b : Int) by omega)
  refine ⟨(a % (b : Int)).toNat, ?_, by omega⟩
  show (if decide ((b : Int) ≠ 0) = true then Res.ok (D.int (a.fmod (b : Int))) M else .bad) = _
  rw [if_pos (decide_eq_true (by omega)), Int.fmod_eq_emod_of_nonneg _ (by omega), Int.toNat_of_nonneg h1]
theorem log64 {a : Nat} (h : a < 2 ^ 64) : a.log2 < 65 := by
  by_cases h0 : a = 0
  · subst h0
    decide
  · have : a.log2 < 64 := (Nat.log2_lt h0).mpr h
    omega
theorem mul_s {a b : Nat} (M : Mem) (ha : a < 2 ^ 64) (hb : b < 2 ^ 64) : mulI (.int (a : Int)) (.int (b : Int)) M = .ok (.int ((a * b : Nat) : Int)) M := mul_nn M (by have := log64 ha; have := log64 hb; omega)
theorem max_2n (b : Nat) (M : Mem) : maxD [.int 2, .int (b : Int)] M = .ok (.int ((max 2 b : Nat) : Int)) M := by
  show (if true = true then Res.ok (D.int (if (b : Int) > 2 then (b : Int) else 2)) M else .bad) = _
  rw [if_pos rfl]
  by_cases h : 2 < b
  · rw [if_pos (by omega), show max 2 b = b by omega]
  · rw [if_neg (by omega), show max 2 b = 2 by omega]
    rfl
abbrev bDraw : SD := (sSeq (sPut (eVar 0) (eC (.str "draws")) (e2 addD (e2 dgetD (eVar 0) (eC (.str "draws"))) (eC (.int 1)))) (sSeq (sAsg (.nm 2) (e2 addD (e2 dgetD (eVar 0) (eC (.str "mixed"))) (e2 mulI (eC (.int 69621)) (e2 dgetD (eVar 0) (eC (.str "draws")))))) (sSeq (sIf (tB (e2 neD (e2 dgetD (eVar 0) (eC (.str "left"))) (eLst aNil))) (sSeq (sAsg (.nm 3) (eM0 "list" popD (e2 dgetD (eVar 0) (eC (.str "left"))))) (sSeq (sIf (tB (e2 geD (eVar 3) (e2 powD (eC (.int 10)) (eC (.int 18))))) (sSeq (sExpr (eM "list" appendD (e2 dgetD (eVar 0) (eC (.str "left"))) (aCons (e2 divD (eVar 3) (eL maxD (aCons (eC (.int 2)) (aCons (eVar 1) aNil)))) aNil))) (sRet (e2 modD (eL intD (aCons (eVar 3) aNil)) (eVar 1)))) sNil) (sAsg (.nm 2) (e2 addD (eVar 2) (e2 modD (eL intD (aCons (eVar 3) aNil)) (eC (.int 2147483629))))))) sNil) (sSeq (sAsg (.nm 2) (e2 modD (eL intD (aCons (e2 addD (e2 mulI (eVar 2) (eC (.int 40692))) (eC (.int 21501))) aNil)) (eC (.int 2147483563)))) (sSeq (sAsg (.nm 2) (e2 modD (eL intD (aCons (e2 addD (e2 addD (e2 mulI (eVar 2) (eVar 2)) (e2 mulI (eC (.int 52774)) (e2 dgetD (eVar 0) (eC (.str "draws"))))) (eC (.int 7))) aNil)) (eC (.int 2147483399)))) (sRet (e2 modD (eL intD (aCons (e2 divD (e2 modD (eL intD (aCons (e2 mulI (eVar 2) (eC (.int 40014))) aNil)) (eC (.int 2147483563))) (eC (.int 64))) aNil)) (eVar 1))))))))
theorem int_ii (a : Int) (M : Mem) : intD [.int a] M = .ok (.int a) M := rfl
theorem add_nl (a b : Nat) (M : Mem) : addD (.int (a : Int)) (.int (b : Int)) M = .ok (.int ((a + b : Nat) : Int)) M := by rw [Int.natCast_add]; rfl
/-- the tail of a draw: mixing -/
theorem run_mix (n many N a d m : Nat) (z : Option D) (M : Mem) (hN : N < 2 ^ 50) (hm : 0 < many) (hd : d < 1100000) (hM : M[n]? = some (some (.dct (dk a m d)))) :
    ∃ r : Nat, r < many ∧ sSeq (sAsg (.nm 2) (e2 modD (eL intD (aCons (e2 addD (e2 mulI (eVar 2) (eC (.int 40692))) (eC (.int 21501))) aNil)) (eC (.int 2147483563)))) (sSeq (sAsg (.nm 2) (e2 modD (eL intD (aCons (e2 addD (e2 addD (e2 mulI (eVar 2) (eVar 2)) (e2 mulI (eC (.int 52774)) (e2 dgetD (eVar 0) (eC (.str "draws"))))) (eC (.int 7))) aNil)) (eC (.int 2147483399)))) (sRet (e2 modD (eL intD (aCons (e2 divD (e2 modD (eL intD (aCons (e2 mulI (eVar 2) (eC (.int 40014))) aNil)) (eC (.int 2147483563))) (eC (.int 64))) aNil)) (eVar 1)))) [some (.own n), some (.int (many : Int)), some (.int (N : Int)), z] M = .rt (.int (r : Int)) M := by
  have g := get_of hM (dk_draws a m d)
  have m1 : mulI (.int (N : Int)) (.int 40692) M = .ok (.int ((N * 40692 : Nat) : Int)) M := mul_s M (by omega) (by decide)
  have a1 : addD (.int ((N * 40692 : Nat) : Int)) (.int 21501) M = .ok (.int ((N * 40692 + 21501 : Nat) : Int)) M := add_nl _ _ M
  have q1 : modD (.int ((N * 40692 + 21501 : Nat) : Int)) (.int 2147483563) M = .ok (.int (((N * 40692 + 21501) % 2147483563 : Nat) : Int)) M := mod_nn M (by decide)
  have l1 : (N * 40692 + 21501) % 2147483563 < 2147483563 := Nat.mod_lt _ (by decide)
  generalize (N * 40692 + 21501) % 2147483563 = N1 at *
  have m2 : mulI (.int (N1 : Int)) (.int (N1 : Int)) M = .ok (.int ((N1 * N1 : Nat) : Int)) M := mul_s M (by omega) (by omega)
  have m3 : mulI (.int 52774) (.int (d : Int)) M = .ok (.int ((52774 * d : Nat) : Int)) M := mul_s M (by decide) (by omega)
  have a2 : addD (.int ((N1 * N1 : Nat) : Int)) (.int ((52774 * d : Nat) : Int)) M = .ok (.int ((N1 * N1 + 52774 * d : Nat) : Int)) M := add_nl _ _ M
  have a3 : addD (.int ((N1 * N1 + 52774 * d : Nat) : Int)) (.int 7) M = .ok (.int ((N1 * N1 + 52774 * d + 7 : Nat) : Int)) M := add_nl _ _ M
  have q2 : modD (.int ((N1 * N1 + 52774 * d + 7 : Nat) : Int)) (.int 2147483399) M = .ok (.int (((N1 * N1 + 52774 * d + 7) % 2147483399 : Nat) : Int)) M := mod_nn M (by decide)
  have l2 : (N1 * N1 + 52774 * d + 7) % 2147483399 < 2147483399 := Nat.mod_lt _ (by decide)
  generalize (N1 * N1 + 52774 * d + 7) % 2147483399 = N2 at *
  have m4 : mulI (.int (N2 : Int)) (.int 40014) M = .ok (.int ((N2 * 40014 : Nat) : Int)) M := mul_s M (by omega) (by decide)
  have q3 : modD (.int ((N2 * 40014 : Nat) : Int)) (.int 2147483563) M = .ok (.int (((N2 * 40014) % 2147483563 : Nat) : Int)) M := mod_nn M (by decide)
  generalize (N2 * 40014) % 2147483563 = N3 at *
  have d1 : divD (.int (N3 : Int)) (.int 64) M = .ok (.int ((N3 / 64 : Nat) : Int)) M := div_nn M (by decide) (by decide)
  have q4 := mod_nn (a := N3 / 64) (b := many) M hm
  refine ⟨(N3 / 64) % many, Nat.mod_lt _ hm, ?_⟩
  simp only [runB, sSeq, sIf, sNil, sPass, sCont, sPar, sAsg, sRet, sExpr, liftR, tAndM, tOrM, tNotM, tB, tTr, truD, e2, e1, eChain, eVar, eC, eL, eIf, eAnd, eOr, eNot, eTup, eLst, eBits, aCons, aNil, Res.bind, asgR, asgL, Pat.asg, List.map_cons, List.map_nil, List.set, Option.bind, Option.bind_some, List.getElem?_cons_succ, List.getElem?_cons_zero, List.length_cons, List.length_nil, List.replicate_succ, List.replicate_zero, List.cons_append, List.nil_append, Nat.reduceAdd, Nat.reduceSub, Nat.reduceLeDiff, Nat.zero_add, decide_true, decide_false, if_true, if_false, Bool.false_eq_true, Bool.not_true, Bool.not_false, eq_ii, ne_ii, lt_ii, gt_ii, le_ii, ge_ii, add_ii, sub_ii, m1, a1, int_ii, q1, asgR, m2, g, m3, a2, a3, q2, m4, q3, d1, q4]
theorem set_at {M : Mem} {n : Nat} {o x : Option MO} (h : M[n]? = some o) : (M.set n x)[n]? = some x := by
  rw [List.getElem?_set_self (List.getElem?_eq_some_iff.mp h).1]
theorem run_draw {M : Mem} {a n c many : Nat} (D0 : Dk M a n c) (hc : c < 1000000) (hm : 0 < many) (hm2 : many < 2 ^ 60) :
    ∃ (r : Nat) (M' : Mem), r < many ∧ runB 4 bDraw [.own n, .int (many : Int)] M = .ok (.int (r : Int)) M' ∧ Dk M' a n (c + 1) ∧ Sm M M' a n := by
  obtain ⟨hne, L, m, d, hL, hn, l63, hmx, hd⟩ := D0
  -- the count
  have g1 := get_of hn (dk_draws a m d)
  let M1 := M.set n (some (.dct (dk a m ((d + 1 : Nat) : Int))))
  have hn1 : M1[n]? = some (some (.dct (dk a m ((d + 1 : Nat) : Int)))) := set_at hn
  have ha1 : M1[a]? = some (some (.lst (L.map D.int))) := by
    show (M.set n _)[a]? = _
    rw [List.getElem?_set_ne (fun z => hne z.symm)]
    exact hL
  have s1 : Sm M M1 a n := ⟨List.length_set, fun i h1 h2 => List.getElem?_set_ne (fun z => h2 z.symm)⟩
  have st1 : sPut (eVar 0) (eC (.str "draws")) (e2 addD (e2 dgetD (eVar 0) (eC (.str "draws"))) (eC (.int 1))) [some (.own n), some (.int (many : Int)), none, none] M = .nx [some (.own n), some (.int (many : Int)), none, none] M1 := by
    have ad : addD (.int (d : Int)) (.int 1) M = .ok (.int ((d + 1 : Nat) : Int)) M := add_nl d 1 M
    unfold sPut
    simp only [runB, sSeq, sIf, sNil, sPass, sCont, sPar, sAsg, sRet, sExpr, liftR, tAndM, tOrM, tNotM, tB, tTr, truD, e2, e1, eChain, eVar, eC, eL, eIf, eAnd, eOr, eNot, eTup, eLst, eBits, aCons, aNil, Res.bind, asgR, asgL, Pat.asg, List.map_cons, List.map_nil, List.set, Option.bind, Option.bind_some, List.getElem?_cons_succ, List.getElem?_cons_zero, List.length_cons, List.length_nil, List.replicate_succ, List.replicate_zero, List.cons_append, List.nil_append, Nat.reduceAdd, Nat.reduceSub, Nat.reduceLeDiff, Nat.zero_add, decide_true, decide_false, if_true, if_false, Bool.false_eq_true, Bool.not_true, Bool.not_false, eq_ii, ne_ii, lt_ii, gt_ii, le_ii, ge_ii, add_ii, sub_ii, g1, ad, keyOf, hn]
    rw [if_pos (show (dk a (m : Int) (d : Int)).length < 1000000 from (by decide : 3 < 1000000)), dk_put]
    rfl
  -- the number
  have g2 := get_of hn1 (dk_mixed a m ((d + 1 : Nat) : Int))
  have g3 := get_of hn1 (dk_draws a m ((d + 1 : Nat) : Int))
  have g4 := get_of hn1 (dk_left a m ((d + 1 : Nat) : Int))
  have mu : mulI (.int 69621) (.int ((d + 1 : Nat) : Int)) M1 = .ok (.int ((69621 * (d + 1) : Nat) : Int)) M1 := mul_s M1 (by decide) (by omega)
  have ad2 := add_nl m (69621 * (d + 1)) M1
  have hN : m + 69621 * (d + 1) < 2 ^ 40 := by omega
  generalize m + 69621 * (d + 1) = N0 at *
  have st2 : sAsg (.nm 2) (e2 addD (e2 dgetD (eVar 0) (eC (.str "mixed"))) (e2 mulI (eC (.int 69621)) (e2 dgetD (eVar 0) (eC (.str "draws"))))) [some (.own n), some (.int (many : Int)), none, none] M1 = .nx [some (.own n), some (.int (many : Int)), some (.int (N0 : Int)), none] M1 := by
    simp only [runB, sSeq, sIf, sNil, sPass, sCont, sPar, sAsg, sRet, sExpr, liftR, tAndM, tOrM, tNotM, tB, tTr, truD, e2, e1, eChain, eVar, eC, eL, eIf, eAnd, eOr, eNot, eTup, eLst, eBits, aCons, aNil, Res.bind, asgR, asgL, Pat.asg, List.map_cons, List.map_nil, List.set, Option.bind, Option.bind_some, List.getElem?_cons_succ, List.getElem?_cons_zero, List.length_cons, List.length_nil, List.replicate_succ, List.replicate_zero, List.cons_append, List.nil_append, Nat.reduceAdd, Nat.reduceSub, Nat.reduceLeDiff, Nat.zero_add, decide_true, decide_false, if_true, if_false, Bool.false_eq_true, Bool.not_true, Bool.not_false, eq_ii, ne_ii, lt_ii, gt_ii, le_ii, ge_ii, add_ii, sub_ii, g2, g3, mu, ad2, asgR]
  have nl := ne_left ha1
  have zl : (0 : Nat) ≤ 1000000 := by decide
  cases hLL : L.isEmpty with
  | true =>
    rw [hLL] at nl
    have st3 : tB (e2 neD (e2 dgetD (eVar 0) (eC (.str "left"))) (eLst aNil)) [some (.own n), some (.int (many : Int)), some (.int (N0 : Int)), none] M1 = .ok false M1 := by
      simp only [runB, sSeq, sIf, sNil, sPass, sCont, sPar, sAsg, sRet, sExpr, liftR, tAndM, tOrM, tNotM, tB, tTr, truD, e2, e1, eChain, eVar, eC, eL, eIf, eAnd, eOr, eNot, eTup, eLst, eBits, aCons, aNil, Res.bind, asgR, asgL, Pat.asg, List.map_cons, List.map_nil, List.set, Option.bind, Option.bind_some, List.getElem?_cons_succ, List.getElem?_cons_zero, List.length_cons, List.length_nil, List.replicate_succ, List.replicate_zero, List.cons_append, List.nil_append, Nat.reduceAdd, Nat.reduceSub, Nat.reduceLeDiff, Nat.zero_add, decide_true, decide_false, if_true, if_false, Bool.false_eq_true, Bool.not_true, Bool.not_false, eq_ii, ne_ii, lt_ii, gt_ii, le_ii, ge_ii, add_ii, sub_ii, g4, zl, nl]
    obtain ⟨r, hr, er⟩ := run_mix n many N0 a (d + 1) m none M1 (by omega) hm (by omega) hn1
    refine ⟨r, M1, hr, ?_, ⟨hne, L, m, d + 1, ha1, hn1, l63, hmx, by omega⟩, s1⟩
    unfold bDraw
    have i3 : ∀ b : SD, sIf (tB (e2 neD (e2 dgetD (eVar 0) (eC (.str "left"))) (eLst aNil))) b sNil [some (.own n), some (.int (many : Int)), some (.int (N0 : Int)), none] M1 = .nx [some (.own n), some (.int (many : Int)), some (.int (N0 : Int)), none] M1 := fun b => by
      unfold sIf
      rw [st3]
      rfl
    rw [runB]
    rw [show List.map some [D.own n, D.int (many : Int)] ++ List.replicate (4 - [D.own n, D.int (many : Int)].length) none = [some (.own n), some (.int (many : Int)), none, none] from rfl]
    rw [sSeq, st1]
    dsimp only
    rw [sSeq, st2]
    dsimp only
    rw [sSeq, i3]
    dsimp only
    rw [er]
  | false =>
    rw [hLL] at nl
    have st3 : tB (e2 neD (e2 dgetD (eVar 0) (eC (.str "left"))) (eLst aNil)) [some (.own n), some (.int (many : Int)), some (.int (N0 : Int)), none] M1 = .ok true M1 := by
      simp only [runB, sSeq, sIf, sNil, sPass, sCont, sPar, sAsg, sRet, sExpr, liftR, tAndM, tOrM, tNotM, tB, tTr, truD, e2, e1, eChain, eVar, eC, eL, eIf, eAnd, eOr, eNot, eTup, eLst, eBits, aCons, aNil, Res.bind, asgR, asgL, Pat.asg, List.map_cons, List.map_nil, List.set, Option.bind, Option.bind_some, List.getElem?_cons_succ, List.getElem?_cons_zero, List.length_cons, List.length_nil, List.replicate_succ, List.replicate_zero, List.cons_append, List.nil_append, Nat.reduceAdd, Nat.reduceSub, Nat.reduceLeDiff, Nat.zero_add, decide_true, decide_false, if_true, if_false, Bool.false_eq_true, Bool.not_true, Bool.not_false, eq_ii, ne_ii, lt_ii, gt_ii, le_ii, ge_ii, add_ii, sub_ii, g4, zl, nl]
    have hLne : L ≠ [] := fun z => by simp [z] at hLL
    obtain ⟨L', cell, rfl⟩ : ∃ L' cell, L = L' ++ [cell] := ⟨L.dropLast, L.getLast hLne, (List.dropLast_concat_getLast hLne).symm⟩
    let M2 := M1.set a (some (.lst (L'.map D.int)))
    have ha2 : M2[a]? = some (some (.lst (L'.map D.int))) := set_at ha1
    have hn2 : M2[n]? = some (some (.dct (dk a m ((d + 1 : Nat) : Int)))) := by
      show (M1.set a _)[n]? = _
      rw [List.getElem?_set_ne hne]
      exact hn1
    have s2 : Sm M1 M2 a n := ⟨List.length_set, fun i h1 h2 => List.getElem?_set_ne (fun z => h1 z.symm)⟩
    have pop : popD (.own a) [] M1 = .ok (.int cell) M2 := by
      unfold popD
      simp only [ha1, List.map_append, List.map_cons, List.map_nil, List.length_append, List.length_map, List.length_cons, List.length_nil, Nat.zero_add, Nat.add_sub_cancel]
      rw [List.getElem?_append_right (by simp), List.length_map, Nat.sub_self]
      simp only [List.getElem?_cons_zero, List.dropLast_concat]
      rfl
    have ty1 : tyM "list" (.own a) M1 = true := by
      unfold tyM
      simp only [ha1]
      rfl
    have st4 : sAsg (.nm 3) (eM0 "list" popD (e2 dgetD (eVar 0) (eC (.str "left")))) [some (.own n), some (.int (many : Int)), some (.int (N0 : Int)), none] M1 = .nx [some (.own n), some (.int (many : Int)), some (.int (N0 : Int)), some (.int cell)] M2 := by
      simp only [runB, sSeq, sIf, sNil, sPass, sCont, sPar, sAsg, sRet, sExpr, liftR, tAndM, tOrM, tNotM, tB, tTr, truD, e2, e1, eChain, eVar, eC, eL, eIf, eAnd, eOr, eNot, eTup, eLst, eBits, aCons, aNil, Res.bind, asgR, asgL, Pat.asg, List.map_cons, List.map_nil, List.set, Option.bind, Option.bind_some, List.getElem?_cons_succ, List.getElem?_cons_zero, List.length_cons, List.length_nil, List.replicate_succ, List.replicate_zero, List.cons_append, List.nil_append, Nat.reduceAdd, Nat.reduceSub, Nat.reduceLeDiff, Nat.zero_add, decide_true, decide_false, if_true, if_false, Bool.false_eq_true, Bool.not_true, Bool.not_false, eq_ii, ne_ii, lt_ii, gt_ii, le_ii, ge_ii, add_ii, sub_ii, eM0, g4, ty1, pop, asgR]
    have pw : powD (.int 10) (.int 18) M2 = .ok (.int 1000000000000000000) M2 := rfl
    have g5 := get_of hn2 (dk_left a m ((d + 1 : Nat) : Int))
    by_cases big : (1000000000000000000 : Int) ≤ cell
    · -- digits
      have mx := max_2n many M2
      have dv := div_in (a := cell) (b := max 2 many) M2 (by omega) (by
        have := log64 (a := max 2 many) (by omega)
        omega)
      let M3 := M2.set a (some (.lst ((L' ++ [cell.fdiv ((max 2 many : Nat) : Int)]).map D.int)))
      have ha3 : M3[a]? = some (some (.lst ((L' ++ [cell.fdiv ((max 2 many : Nat) : Int)]).map D.int))) := set_at ha2
      have hn3 : M3[n]? = some (some (.dct (dk a m ((d + 1 : Nat) : Int)))) := by
        show (M2.set a _)[n]? = _
        rw [List.getElem?_set_ne hne]
        exact hn2
      have s3 : Sm M2 M3 a n := ⟨List.length_set, fun i h1 h2 => List.getElem?_set_ne (fun z => h1 z.symm)⟩
      have ty2 : tyM "list" (.own a) M2 = true := by
        unfold tyM
        simp only [ha2]
        rfl
      have app : appendD (.own a) [.int (cell.fdiv ((max 2 many : Nat) : Int))] M2 = .ok .non M3 := by
        unfold appendD
        simp only [ha2]
        rw [if_pos (by rw [List.length_map]; simp at l63; omega)]
        show Res.ok D.non (M2.set a _) = Res.ok D.non (M2.set a _)
        rw [List.map_append]
        rfl
      obtain ⟨r, er, hr⟩ := mod_in (a := cell) (b := many) M3 hm
      refine ⟨r, M3, hr, ?_, ⟨hne, _, m, d + 1, ha3, hn3, by simpa using l63, hmx, by omega⟩, (s1.trans s2).trans s3⟩
      have st5 : sSeq (sIf (tB (e2 geD (eVar 3) (e2 powD (eC (.int 10)) (eC (.int 18))))) (sSeq (sExpr (eM "list" appendD (e2 dgetD (eVar 0) (eC (.str "left"))) (aCons (e2 divD (eVar 3) (eL maxD (aCons (eC (.int 2)) (aCons (eVar 1) aNil)))) aNil))) (sRet (e2 modD (eL intD (aCons (eVar 3) aNil)) (eVar 1)))) sNil) (sAsg (.nm 2) (e2 addD (eVar 2) (e2 modD (eL intD (aCons (eVar 3) aNil)) (eC (.int 2147483629))))) [some (.own n), some (.int (many : Int)), some (.int (N0 : Int)), some (.int cell)] M2 = .rt (.int (r : Int)) M3 := by
        simp only [runB, sSeq, sIf, sNil, sPass, sCont, sPar, sAsg, sRet, sExpr, liftR, tAndM, tOrM, tNotM, tB, tTr, truD, e2, e1, eChain, eVar, eC, eL, eIf, eAnd, eOr, eNot, eTup, eLst, eBits, aCons, aNil, Res.bind, asgR, asgL, Pat.asg, List.map_cons, List.map_nil, List.set, Option.bind, Option.bind_some, List.getElem?_cons_succ, List.getElem?_cons_zero, List.length_cons, List.length_nil, List.replicate_succ, List.replicate_zero, List.cons_append, List.nil_append, Nat.reduceAdd, Nat.reduceSub, Nat.reduceLeDiff, Nat.zero_add, decide_true, decide_false, if_true, if_false, Bool.false_eq_true, Bool.not_true, Bool.not_false, eq_ii, ne_ii, lt_ii, gt_ii, le_ii, ge_ii, add_ii, sub_ii, pw, big, eM, g5, ty2, mx, dv, app, int_ii, er]
      rw [runB]
      rw [show List.map some [D.own n, D.int (many : Int)] ++ List.replicate (4 - [D.own n, D.int (many : Int)].length) none = [some (.own n), some (.int (many : Int)), none, none] from rfl]
      unfold bDraw
      rw [sSeq, st1]
      dsimp only
      rw [sSeq, st2]
      dsimp only
      rw [sSeq, sIf, st3]
      simp only [liftR, if_true]
      rw [sSeq, st4]
      dsimp only
      rw [st5]
    · obtain ⟨x, ex, hx⟩ := mod_in (a := cell) (b := 2147483629) M2 (by decide)
      have ex' : modD (.int cell) (.int 2147483629) M2 = .ok (.int (x : Int)) M2 := ex
      have ad3 := add_nl N0 x M2
      have st5 : sSeq (sIf (tB (e2 geD (eVar 3) (e2 powD (eC (.int 10)) (eC (.int 18))))) (sSeq (sExpr (eM "list" appendD (e2 dgetD (eVar 0) (eC (.str "left"))) (aCons (e2 divD (eVar 3) (eL maxD (aCons (eC (.int 2)) (aCons (eVar 1) aNil)))) aNil))) (sRet (e2 modD (eL intD (aCons (eVar 3) aNil)) (eVar 1)))) sNil) (sAsg (.nm 2) (e2 addD (eVar 2) (e2 modD (eL intD (aCons (eVar 3) aNil)) (eC (.int 2147483629))))) [some (.own n), some (.int (many : Int)), some (.int (N0 : Int)), some (.int cell)] M2 = .nx [some (.own n), some (.int (many : Int)), some (.int ((N0 + x : Nat) : Int)), some (.int cell)] M2 := by
        simp only [runB, sSeq, sIf, sNil, sPass, sCont, sPar, sAsg, sRet, sExpr, liftR, tAndM, tOrM, tNotM, tB, tTr, truD, e2, e1, eChain, eVar, eC, eL, eIf, eAnd, eOr, eNot, eTup, eLst, eBits, aCons, aNil, Res.bind, asgR, asgL, Pat.asg, List.map_cons, List.map_nil, List.set, Option.bind, Option.bind_some, List.getElem?_cons_succ, List.getElem?_cons_zero, List.length_cons, List.length_nil, List.replicate_succ, List.replicate_zero, List.cons_append, List.nil_append, Nat.reduceAdd, Nat.reduceSub, Nat.reduceLeDiff, Nat.zero_add, decide_true, decide_false, if_true, if_false, Bool.false_eq_true, Bool.not_true, Bool.not_false, eq_ii, ne_ii, lt_ii, gt_ii, le_ii, ge_ii, add_ii, sub_ii, pw, big, int_ii, ex', ad3, asgR]
      obtain ⟨r, hr, er⟩ := run_mix n many (N0 + x) a (d + 1) m (some (.int cell)) M2 (by omega) hm (by omega) hn2
      refine ⟨r, M2, hr, ?_, ⟨hne, L', m, d + 1, ha2, hn2, by simp at l63; omega, hmx, by omega⟩, s1.trans s2⟩
      rw [runB]
      rw [show List.map some [D.own n, D.int (many : Int)] ++ List.replicate (4 - [D.own n, D.int (many : Int)].length) none = [some (.own n), some (.int (many : Int)), none, none] from rfl]
      unfold bDraw
      rw [sSeq, st1]
      dsimp only
      rw [sSeq, st2]
      dsimp only
      rw [sSeq, sIf, st3]
      simp only [liftR, if_true]
      rw [sSeq, st4]
      dsimp only
      rw [st5]
      dsimp only
      rw [er]
end DL
namespace DL
open PySem PySem.Spec L2
/-- all but two objects stay, there may be more -/
structure Gw (M M' : Mem) (a n : Nat) : Prop where
  len : M.length ≤ M'.length
  at_ : ∀ i, i < M.length → i ≠ a → i ≠ n → M'[i]? = M[i]?
theorem Gw.refl (M : Mem) (a n : Nat) : Gw M M a n := ⟨Nat.le_refl _, fun _ _ _ _ => rfl⟩
theorem Gw.trans {M M1 M2 : Mem} {a n : Nat} (x : Gw M M1 a n) (y : Gw M1 M2 a n) : Gw M M2 a n := ⟨Nat.le_trans x.len y.len, fun i h h1 h2 => (y.at_ i (Nat.lt_of_lt_of_le h x.len) h1 h2).trans (x.at_ i h h1 h2)⟩
theorem Sm.gw {M M' : Mem} {a n : Nat} (x : Sm M M' a n) : Gw M M' a n := ⟨Nat.le_of_eq x.len.symm, fun i _ h1 h2 => x.at_ i h1 h2⟩
theorem Dk.lt {M : Mem} {a n c : Nat} (h : Dk M a n c) : a < M.length ∧ n < M.length := by
  obtain ⟨L, m, d, h1, h2, _⟩ := h.ex
  exact ⟨(List.getElem?_eq_some_iff.mp h1).1, (List.getElem?_eq_some_iff.mp h2).1⟩
theorem Dk.up {M : Mem} {a n c c' : Nat} (h : Dk M a n c) (hc : c ≤ c') : Dk M a n c' := by
  obtain ⟨L, m, d, h1, h2, h3, h4, h5⟩ := h.ex
  exact ⟨h.ne, L, m, d, h1, h2, h3, h4, by omega⟩
theorem Dk.app {M : Mem} {a n c : Nat} (h : Dk M a n c) (X : Mem) : Dk (M ++ X) a n c := by
  obtain ⟨L, m, d, h1, h2, h3, h4, h5⟩ := h.ex
  obtain ⟨q1, q2⟩ := h.lt
  exact ⟨h.ne, L, m, d, by rw [List.getElem?_append_left q1]; exact h1, by rw [List.getElem?_append_left q2]; exact h2, h3, h4, h5⟩
theorem Dk.of_at {M M' : Mem} {a n c : Nat} (h : Dk M a n c) (h1 : M'[a]? = M[a]?) (h2 : M'[n]? = M[n]?) : Dk M' a n c := by
  obtain ⟨L, m, d, q1, q2, q3, q4, q5⟩ := h.ex
  exact ⟨h.ne, L, m, d, h1.trans q1, h2.trans q2, q3, q4, q5⟩
theorem Gw.app (M X : Mem) (a n : Nat) : Gw M (M ++ X) a n := ⟨by simp, fun i h _ _ => List.getElem?_append_left h⟩
abbrev mDraw : GL := runB 4 bDraw
theorem at_nat {l : List D} {r : Nat} (h : r < l.length) : atI l (r : Int) = some l[r] := by
  unfold atI
  have e : ixN l.length (r : Int) = some r := by
    unfold ixN
    rw [if_pos (by omega), if_pos (by omega), Int.toNat_natCast]
  rw [e]
  exact List.getElem?_eq_getElem h
theorem len_lst (l : List D) (M : Mem) : lenD [.lst l] M = .ok (.int (l.length : Int)) M := rfl
abbrev bPick : SD := (sRet (e2 ixD (eVar 1) (eL mDraw (aCons (eVar 0) (aCons (eL lenD (aCons (eVar 1) aNil)) aNil)))))
theorem run_pick {M : Mem} {a n c : Nat} {l : List D} (D0 : Dk M a n c) (hc : c < 1000000) (hl : 0 < l.length) (hl2 : l.length < 2 ^ 60) :
    ∃ (d : D) (M' : Mem), d ∈ l ∧ runB 2 bPick [.own n, .lst l] M = .ok d M' ∧ Dk M' a n (c + 1) ∧ Gw M M' a n := by
  obtain ⟨r, M', hr, er, D1, s1⟩ := run_draw (many := l.length) D0 hc hl hl2
  refine ⟨l[r], M', List.getElem_mem hr, ?_, D1, s1.gw⟩
  have ix : ixD (.lst l) (.int (r : Int)) M' = .ok l[r] M' := by
    show optR (atI l (r : Int)) M' = _
    rw [at_nat hr]
    rfl
  unfold bPick
  rw [runB]
  rw [show List.map some [D.own n, D.lst l] ++ List.replicate (2 - [D.own n, D.lst l].length) none = [some (.own n), some (.lst l)] from rfl]
  simp only [sRet, e2, eL, eVar, aCons, aNil, Res.bind, List.getElem?_cons_succ, List.getElem?_cons_zero, len_lst, mDraw, er, ix, liftR]
abbrev bMixed : SD := (sSeq (sAsg (.nm 2) (eL listO (aCons (eVar 1) aNil))) (sRet (eLc (iSeq (eVar 1)) (.nm 3) [3] cYes (eM "list" popAtD (eVar 2) (aCons (eL mDraw (aCons (eVar 0) (aCons (eL lenD (aCons (eVar 2) aNil)) aNil))) aNil)))))
theorem len_own {M : Mem} {k : Nat} {l : List D} (h : M[k]? = some (some (.lst l))) : lenD [.own k] M = .ok (.int (l.length : Int)) M := by
  unfold lenD
  simp only [h]
theorem run_pops {a n k : Nat} {l : List D} (hka : k ≠ a) (hkn : k ≠ n) : ∀ (r : List D) (M : Mem) (c : Nat) (rem : List D), Dk M a n c → c + r.length < 1000000 → M[k]? = some (some (.lst rem)) → rem.length = r.length → r.length < 1000000 → (∀ x ∈ rem, x ∈ l) →
    ∃ xs M', lcL (.nm 3) cYes (eM "list" popAtD (eVar 2) (aCons (eL mDraw (aCons (eVar 0) (aCons (eL lenD (aCons (eVar 2) aNil)) aNil))) aNil)) [some (.own n), some (.lst l), some (.own k), none] r M = some (xs, M') ∧ xs.length = r.length ∧ (∀ x ∈ xs, x ∈ l) ∧ Dk M' a n (c + r.length) ∧ M'.length = M.length ∧ ∀ i, i ≠ a → i ≠ n → i ≠ k → M'[i]? = M[i]?
  | [], M, c, rem, D0, _, _, _, _, _ => ⟨[], M, rfl, rfl, fun x h => (nomatch h), D0, rfl, fun _ _ _ _ => rfl⟩
  | d :: r, M, c, rem, D0, hc, hk, hlen, hlt, hmem => by
    obtain ⟨i, M1, hi, ei, D1, s1⟩ := run_draw (many := rem.length) D0 (by omega) (by rw [hlen]; simp) (by
      have : (1000000 : Nat) < 2 ^ 60 := by decide
      omega)
    have hk1 : M1[k]? = some (some (.lst rem)) := (s1.at_ k hka hkn).trans hk
    let M2 := M1.set k (some (.lst (rem.eraseIdx i)))
    have hk2 : M2[k]? = some (some (.lst (rem.eraseIdx i))) := set_at hk1
    have D2 : Dk M2 a n (c + 1) := D1.of_at (List.getElem?_set_ne hka) (List.getElem?_set_ne hkn)
    have hi2 : i < 1000000 := by omega
    have pop : popAtD (.own k) [.int (i : Int)] M1 = .ok rem[i] M2 := by
      unfold popAtD
      simp only [hk1, Int.toNat_natCast]
      rw [if_pos ⟨by omega, by omega⟩, List.getElem?_eq_getElem hi]
      rfl
    have ty : tyM "list" (.own k) M = true := by
      unfold tyM
      simp only [hk]
      rfl
    have ll := len_own hk
    have ev : eM "list" popAtD (eVar 2) (aCons (eL mDraw (aCons (eVar 0) (aCons (eL lenD (aCons (eVar 2) aNil)) aNil))) aNil) [some (.own n), some (.lst l), some (.own k), some d] M = .ok rem[i] M2 := by
      simp only [eM, eL, eVar, aCons, aNil, Res.bind, List.getElem?_cons_succ, List.getElem?_cons_zero, ty, if_true, ll, mDraw, ei, pop]
    have hle : (rem.eraseIdx i).length = r.length := by
      rw [List.length_eraseIdx_of_lt hi, hlen]
      simp
    obtain ⟨xs, M', e', l', m', D', len', at'⟩ := run_pops (a := a) (n := n) (k := k) (l := l) hka hkn r M2 (c + 1) (rem.eraseIdx i) D2 (by simp at hc; omega) hk2 hle (by simp at hlt; omega) (fun x hx => hmem x (List.mem_of_mem_eraseIdx hx))
    refine ⟨rem[i] :: xs, M', ?_, by simp [l'], fun x hx => ?_, ?_, ?_, fun j h1 h2 h3 => ?_⟩
    · unfold lcL
      have q : Pat.asg (.nm 3) d [some (.own n), some (.lst l), some (.own k), none] = some [some (.own n), some (.lst l), some (.own k), some d] := rfl
      rw [q]
      simp only [cYes, if_true, ev, e']
      rfl
    · rcases List.mem_cons.mp hx with z | z
      · rw [z]
        exact hmem _ (List.getElem_mem hi)
      · exact m' x z
    · have : c + 1 + r.length = c + (d :: r).length := by simp; omega
      rw [← this]
      exact D'
    · rw [len']
      exact List.length_set.trans s1.len
    · rw [at' j h1 h2 h3, List.getElem?_set_ne (fun z => h3 z.symm)]
      exact s1.at_ j h1 h2
theorem run_mixed {M : Mem} {a n c : Nat} {l : List D} (D0 : Dk M a n c) (hc : c + l.length < 1000000) (hl : l.length < 1000000) :
    ∃ (xs : List D) (M' : Mem), xs.length = l.length ∧ (∀ x ∈ xs, x ∈ l) ∧ runB 4 bMixed [.own n, .lst l] M = .ok (.lst xs) M' ∧ Dk M' a n (c + l.length) ∧ Gw M M' a n := by
  obtain ⟨qa, qn⟩ := D0.lt
  have hk : (M ++ [some (.lst l)])[M.length]? = some (some (.lst l)) := by simp
  obtain ⟨xs, M', e', l', m', D', len', at'⟩ := run_pops (a := a) (n := n) (k := M.length) (l := l) (by omega) (by omega) l (M ++ [some (.lst l)]) c l (D0.app _) hc hk rfl hl (fun x h => h)
  refine ⟨xs, M', l', m', ?_, D', ?_⟩
  · unfold bMixed
    rw [runB]
    rw [show List.map some [D.own n, D.lst l] ++ List.replicate (4 - [D.own n, D.lst l].length) none = [some (.own n), some (.lst l), none, none] from rfl]
    have s1 : sAsg (.nm 2) (eL listO (aCons (eVar 1) aNil)) [some (.own n), some (.lst l), none, none] M = .nx [some (.own n), some (.lst l), some (.own M.length), none] (M ++ [some (.lst l)]) := rfl
    rw [sSeq, s1]
    dsimp only
    have s2 : eLc (iSeq (eVar 1)) (.nm 3) [3] cYes (eM "list" popAtD (eVar 2) (aCons (eL mDraw (aCons (eVar 0) (aCons (eL lenD (aCons (eVar 2) aNil)) aNil))) aNil)) [some (.own n), some (.lst l), some (.own M.length), none] (M ++ [some (.lst l)]) = .ok (.lst xs) M' := by
      show lcR (lcL (.nm 3) cYes _ [some (.own n), some (.lst l), some (.own M.length), none] l (M ++ [some (.lst l)])) = _
      rw [e']
      show (if xs.length ≤ 1000000 then _ else _) = _
      rw [if_pos (by omega)]
    simp only [sRet, s2, liftR]
  · refine ⟨by rw [len']; simp, fun i h h1 h2 => ?_⟩
    rw [at' i h1 h2 (by omega)]
    exact List.getElem?_append_left h
/-! the deck is laid -/
theorem cut_ints (ns : List Int) (lo hi : Option Int) : ∃ ms : List Int, cutD (ns.map D.int) lo hi = ms.map D.int ∧ ms.length ≤ ns.length := by
  unfold cutD
  refine ⟨(ns.drop (HT.sIx (ns.map D.int).length 0 lo)).take (HT.sIx (ns.map D.int).length (ns.map D.int).length hi - HT.sIx (ns.map D.int).length 0 lo), by rw [List.map_take, List.map_drop], ?_⟩
  rw [List.length_take, List.length_drop]
  omega
abbrev bDeck : SD := (sSeq (sAsg (.nm 2) (eVar 1)) (sSeq (sFor (iSeq (eSl slD (eVar 0) oNone (oSome (eC (.int 63))))) (.nm 3) (sAsg (.nm 2) (e2 modD (eL intD (aCons (e2 addD (e2 addD (e2 mulI (eVar 2) (eC (.int 48271))) (e2 modD (eL intD (aCons (eVar 3) aNil)) (eC (.int 2147483629)))) (eC (.int 151))) aNil)) (eC (.int 2147483587))))) (sRet (eDict ["left", "mixed", "draws"] [(e1 revO (eLc (iSeq (eSl slD (eVar 0) oNone (oSome (eC (.int 63))))) (.nm 3) [3] cYes (eL intD (aCons (eVar 3) aNil)))), (eVar 2), (eC (.int 0))]))))
theorem lc_ints (ρ0 : Env) (h : ρ0.length = 4) (M : Mem) : ∀ ms : List Int, lcL (.nm 3) cYes (eL intD (aCons (eVar 3) aNil)) ρ0 (ms.map D.int) M = some (ms.map D.int, M)
  | [] => rfl
  | i :: ms => by
    rw [List.map_cons]
    unfold lcL
    have q : Pat.asg (.nm 3) (.int i) ρ0 = some (ρ0.set 3 (some (.int i))) := rfl
    have g : (ρ0.set 3 (some (.int i)))[3]? = some (some (.int i)) := by
      rw [List.getElem?_set_self (by omega)]
    rw [q]
    simp only [cYes, if_true, eL, aCons, aNil, eVar, g, Res.bind, int_ii, lc_ints ρ0 h M ms]
    rfl
theorem run_deck (ns : List Int) (mark : Nat) (M : Mem) (hl : ns.length ≤ 63) (hm : mark < 2147483587) : ∃ M', runB 4 bDeck [.fz (ns.map D.int), .int (mark : Int)] M = .ok (.own (M.length + 1)) M' ∧ Dk M' M.length (M.length + 1) 0 ∧ M'.length = M.length + 2 := by
  obtain ⟨ms, hms, hlen⟩ := cut_ints ns none (some 63)
  have sl : ∀ (x y z : Option D), eSl slD (eVar 0) oNone (oSome (eC (.int 63))) [some (.fz (ns.map D.int)), x, y, z] M = .ok (.lst (ms.map D.int)) M := fun x y z => by
    rw [← hms]
    rfl
  have loop : ∀ (l : List Int) (b : Nat) (z : Option D), b < 2147483587 → ∃ (b' : Nat) (z' : Option D), b' < 2147483587 ∧ forL (.nm 3) (sAsg (.nm 2) (e2 modD (eL intD (aCons (e2 addD (e2 addD (e2 mulI (eVar 2) (eC (.int 48271))) (e2 modD (eL intD (aCons (eVar 3) aNil)) (eC (.int 2147483629)))) (eC (.int 151))) aNil)) (eC (.int 2147483587)))) (l.map D.int) [some (.fz (ns.map D.int)), some (.int (mark : Int)), some (.int (b : Int)), z] M = .nx [some (.fz (ns.map D.int)), some (.int (mark : Int)), some (.int (b' : Int)), z'] M := by
    intro l
    induction l with
    | nil => exact fun b z hb => ⟨b, z, hb, rfl⟩
    | cons i l ih =>
      intro b z hb
      have m1 : mulI (.int (b : Int)) (.int 48271) M = .ok (.int ((b * 48271 : Nat) : Int)) M := mul_s M (by omega) (by decide)
      obtain ⟨r, er, hr⟩ := mod_in (a := i) (b := 2147483629) M (by decide)
      have er' : modD (.int i) (.int 2147483629) M = .ok (.int (r : Int)) M := er
      have a1 := add_nl (b * 48271) r M
      have a2 : addD (.int ((b * 48271 + r : Nat) : Int)) (.int 151) M = .ok (.int ((b * 48271 + r + 151 : Nat) : Int)) M := add_nl _ _ M
      have q1 : modD (.int ((b * 48271 + r + 151 : Nat) : Int)) (.int 2147483587) M = .ok (.int (((b * 48271 + r + 151) % 2147483587 : Nat) : Int)) M := mod_nn M (by decide)
      have l1 : (b * 48271 + r + 151) % 2147483587 < 2147483587 := Nat.mod_lt _ (by decide)
      generalize (b * 48271 + r + 151) % 2147483587 = b1 at *
      obtain ⟨b', z', hb', e'⟩ := ih b1 (some (.int i)) l1
      refine ⟨b', z', hb', ?_⟩
      rw [List.map_cons]
      unfold forL
      have p : Pat.asg (.nm 3) (.int i) [some (.fz (ns.map D.int)), some (.int (mark : Int)), some (.int (b : Int)), z] = some [some (.fz (ns.map D.int)), some (.int (mark : Int)), some (.int (b : Int)), some (.int i)] := rfl
      rw [p]
      have st : sAsg (.nm 2) (e2 modD (eL intD (aCons (e2 addD (e2 addD (e2 mulI (eVar 2) (eC (.int 48271))) (e2 modD (eL intD (aCons (eVar 3) aNil)) (eC (.int 2147483629)))) (eC (.int 151))) aNil)) (eC (.int 2147483587))) [some (.fz (ns.map D.int)), some (.int (mark : Int)), some (.int (b : Int)), some (.int i)] M = .nx [some (.fz (ns.map D.int)), some (.int (mark : Int)), some (.int (b1 : Int)), some (.int i)] M := by
        simp only [runB, sSeq, sIf, sNil, sPass, sCont, sPar, sAsg, sRet, sExpr, liftR, tAndM, tOrM, tNotM, tB, tTr, truD, e2, e1, eChain, eVar, eC, eL, eIf, eAnd, eOr, eNot, eTup, eLst, eBits, aCons, aNil, Res.bind, asgR, asgL, Pat.asg, List.map_cons, List.map_nil, List.set, Option.bind, Option.bind_some, List.getElem?_cons_succ, List.getElem?_cons_zero, List.length_cons, List.length_nil, List.replicate_succ, List.replicate_zero, List.cons_append, List.nil_append, Nat.reduceAdd, Nat.reduceSub, Nat.reduceLeDiff, Nat.zero_add, decide_true, decide_false, if_true, if_false, Bool.false_eq_true, Bool.not_true, Bool.not_false, eq_ii, ne_ii, lt_ii, gt_ii, le_ii, ge_ii, add_ii, sub_ii, m1, int_ii, er', a1, a2, q1, asgR]
      dsimp only
      rw [st]
      exact e'
  obtain ⟨b', z', hb', e'⟩ := loop ms mark none hm
  have dict : eDict ["left", "mixed", "draws"] [(e1 revO (eLc (iSeq (eSl slD (eVar 0) oNone (oSome (eC (.int 63))))) (.nm 3) [3] cYes (eL intD (aCons (eVar 3) aNil)))), (eVar 2), (eC (.int 0))] [some (.fz (ns.map D.int)), some (.int (mark : Int)), some (.int (b' : Int)), z'] M = .ok (.own (M.length + 1)) (M ++ [some (.lst (ms.map D.int).reverse)] ++ [some (.dct (dk M.length (b' : Int) 0))]) := by
    have lc : eLc (iSeq (eSl slD (eVar 0) oNone (oSome (eC (.int 63))))) (.nm 3) [3] cYes (eL intD (aCons (eVar 3) aNil)) [some (.fz (ns.map D.int)), some (.int (mark : Int)), some (.int (b' : Int)), z'] M = .ok (.lst (ms.map D.int)) M := by
      unfold eLc iSeq
      rw [sl]
      simp only [Res.bind, seqOf]
      rw [lc_ints _ rfl]
      show (if (ms.map D.int).length ≤ 1000000 then _ else _) = _
      rw [if_pos (by rw [List.length_map]; omega)]
    unfold eDict
    simp only [aAll, aCons, aNil, DL.e1, lc, Res.bind, revO, eVar, eC, List.getElem?_cons_succ, List.getElem?_cons_zero, dictR]
    congr 2
    simp
  refine ⟨M ++ [some (.lst (ms.map D.int).reverse)] ++ [some (.dct (dk M.length (b' : Int) 0))], ?_, ?_, ?_⟩
  · unfold bDeck
    rw [runB]
    rw [show List.map some [D.fz (ns.map D.int), D.int (mark : Int)] ++ List.replicate (4 - [D.fz (ns.map D.int), D.int (mark : Int)].length) none = [some (.fz (ns.map D.int)), some (.int (mark : Int)), none, none] from rfl]
    have s1 : sAsg (.nm 2) (eVar 1) [some (.fz (ns.map D.int)), some (.int (mark : Int)), none, none] M = .nx [some (.fz (ns.map D.int)), some (.int (mark : Int)), some (.int (mark : Int)), none] M := rfl
    have it : iSeq (eSl slD (eVar 0) oNone (oSome (eC (.int 63)))) [some (.fz (ns.map D.int)), some (.int (mark : Int)), some (.int (mark : Int)), none] M = .ok (ms.map D.int) M := by
      unfold iSeq
      rw [sl]
      rfl
    rw [sSeq, s1]
    dsimp only
    rw [sSeq, sFor, it]
    simp only [liftR, e', sRet, dict]
  · refine ⟨by omega, ms.reverse, b', 0, ?_, ?_, by rw [List.length_reverse]; omega, hb', Nat.le_refl _⟩
    · rw [List.append_assoc, List.getElem?_append_right (Nat.le_refl _), Nat.sub_self, List.map_reverse]
      rfl
    · rw [List.getElem?_append_right (by simp)]
      simp
  · simp
end DL
namespace DL
open PySem PySem.Spec L2
/-! ### what can be shown -/
structure Sp (n d : Nat) (p : PyData) : Prop where
  lv : PyData.leavesShort 200 p = true
  sh : p.showable = true
  dp : p.depth ≤ d
  wt : p.weight ≤ n
  nd : p.hasDict = false
structure SpL (n d : Nat) (ps : List PyData) : Prop where
  lv : PyData.leavesShortAll 200 ps = true
  sh : PyData.showableAll ps = true
  dp : PyData.depthAll ps ≤ d
  wt : PyData.weightAll ps ≤ n
  nd : PyData.hasDictAll ps = false
theorem Sp.up {n d n' d' : Nat} {p : PyData} (h : Sp n d p) (hn : n ≤ n') (hd : d ≤ d') : Sp n' d' p := ⟨h.lv, h.sh, Nat.le_trans h.dp hd, Nat.le_trans h.wt hn, h.nd⟩
theorem SpL.nil (d : Nat) : SpL 0 d [] := ⟨by simp [PyData.leavesShortAll], by simp [PyData.showableAll], by simp [PyData.depthAll], by simp [PyData.weightAll], by simp [PyData.hasDictAll]⟩
theorem SpL.cons {n m d : Nat} {p : PyData} {ps : List PyData} (h : Sp n d p) (t : SpL m d ps) : SpL (n + 1 + m) d (p :: ps) :=
  ⟨by simp [PyData.leavesShortAll, h.lv, t.lv], by simp [PyData.showableAll, h.sh, t.sh], by simp only [PyData.depthAll]; have := h.dp; have := t.dp; omega, by simp only [PyData.weightAll]; have := h.wt; have := t.wt; omega, by simp [PyData.hasDictAll, h.nd, t.nd]⟩
theorem SpL.tuple {n d : Nat} {ps : List PyData} (t : SpL n d ps) : Sp n (d + 1) (.tuple ps) :=
  ⟨by simp only [PyData.leavesShort]; exact t.lv, by simp only [PyData.showable]; exact t.sh, by simp only [PyData.depth]; have := t.dp; omega, by simp only [PyData.weight]; exact t.wt, by simp only [PyData.hasDict]; exact t.nd⟩
theorem SpL.list {n d : Nat} {ps : List PyData} (t : SpL n d ps) : Sp n (d + 1) (.list ps) :=
  ⟨by simp only [PyData.leavesShort]; exact t.lv, by simp only [PyData.showable]; exact t.sh, by simp only [PyData.depth]; have := t.dp; omega, by simp only [PyData.weight]; exact t.wt, by simp only [PyData.hasDict]; exact t.nd⟩
theorem log_bits_i {i : Int} {k : Nat} (h : Builtin.Int.intBits i ≤ k) : i.natAbs.log2 ≤ k ∧ i.natAbs < 2 ^ k := by
  unfold Builtin.Int.intBits at h
  by_cases h0 : i = 0
  · subst h0
    exact ⟨by simp, Nat.pow_pos (by decide)⟩
  · rw [if_neg (by simpa using h0)] at h
    refine ⟨by omega, ?_⟩
    exact Nat.lt_of_lt_of_le Nat.lt_log2_self (Nat.pow_le_pow_right (by decide) h)
theorem len_int {i : Int} (h : Builtin.Int.intBits i ≤ 400) : (PyData.shown (.int i)).length ≤ 200 := by
  have h1 := (log_bits_i h).2
  have h2 : i.natAbs < 10 ^ 150 := Nat.lt_trans h1 (by decide)
  have e := int_text_length_le10 (k := 150) (by decide) h2
  show (Str.ofString (toString i)).length ≤ 200
  rw [ofString_length]
  omega
theorem sp_int {i : Int} (h : Builtin.Int.intBits i ≤ 400) (d : Nat) : Sp 401 d (.int i) := by
  obtain ⟨h1, h2⟩ := log_bits_i h
  refine ⟨?_, ?_, by simp [PyData.depth], ?_, by simp [PyData.hasDict]⟩
  · simp only [PyData.leavesShort, decide_eq_true_eq]
    exact len_int h
  · simp only [PyData.showable, decide_eq_true_eq]
    omega
  · simp only [PyData.weight]
    split <;> omega
theorem sp_bool (b : Bool) (d : Nat) : Sp 0 d (.bool b) := ⟨by simp [PyData.leavesShort], by simp [PyData.showable], by simp [PyData.depth], by simp [PyData.weight], by simp [PyData.hasDict]⟩
theorem sp_none (d : Nat) : Sp 0 d .none := ⟨by simp [PyData.leavesShort], by simp [PyData.showable], by simp [PyData.depth], by simp [PyData.weight], by simp [PyData.hasDict]⟩
theorem sp_str {x : Str} {n : Nat} (h1 : x.cps.toList.all (fun c => decide (c < 16 ^ 8)) = true) (h2 : x.cps.size ≤ n) (d : Nat) : Sp n d (.str x) := ⟨by simp only [PyData.leavesShort]; exact h1, by simp [PyData.showable], by simp [PyData.depth], by simp only [PyData.weight]; exact h2, by simp [PyData.hasDict]⟩
theorem sp_num {i : Int} (h : Builtin.Int.intBits i ≤ 400) (d : Nat) : Sp 200 d (.str (toString i)) := by
  refine sp_str (List.all_eq_true.mpr fun c hc => ?_) (len_int h) d
  rw [decide_eq_true_eq]
  rcases Nat.lt_or_ge c (16 ^ 8) with q | q
  · exact q
  · exact absurd hc (PyProof.Rows.shown_int_free' ⟨by omega, by omega⟩ i)
/-- repr takes it -/
def Shw (p : PyData) : Prop := p.showable = true ∧ p.depth ≤ 40 ∧ p.shown.length ≤ 16000000 ∧ p.hasDict = false
theorem Sp.shw {n d : Nat} {p : PyData} (h : Sp n d p) (hn : n ≤ 70000) (hd : d ≤ 40) : Shw p := by
  refine ⟨h.sh, Nat.le_trans h.dp hd, ?_, h.nd⟩
  have e := PyData.shown_le 200 (by decide) p h.lv
  have := h.wt
  omega
/-- of data -/
def Sd (n d : Nat) (x : D) : Prop := ∃ p, toPy x = some p ∧ Sp n d p
def SdL (n d : Nat) (xs : List D) : Prop := ∃ ps, toPyL xs = some ps ∧ SpL n d ps
theorem Sd.up {n d n' d' : Nat} {x : D} (h : Sd n d x) (hn : n ≤ n') (hd : d ≤ d') : Sd n' d' x := by
  obtain ⟨p, e, s⟩ := h
  exact ⟨p, e, s.up hn hd⟩
theorem SdL.nil (d : Nat) : SdL 0 d [] := ⟨[], rfl, SpL.nil d⟩
theorem SdL.cons {n m d : Nat} {x : D} {xs : List D} (h : Sd n d x) (t : SdL m d xs) : SdL (n + 1 + m) d (x :: xs) := by
  obtain ⟨p, e, s⟩ := h
  obtain ⟨ps, es, ss⟩ := t
  refine ⟨p :: ps, ?_, SpL.cons s ss⟩
  simp only [toPyL, e, es]
theorem SdL.tup {n d : Nat} {xs : List D} (t : SdL n d xs) : Sd n (d + 1) (.tup xs) := by
  obtain ⟨ps, es, ss⟩ := t
  refine ⟨_, ?_, ss.tuple⟩
  simp only [toPy, es]
  rfl
theorem SdL.lst {n d : Nat} {xs : List D} (t : SdL n d xs) : Sd n (d + 1) (.lst xs) := by
  obtain ⟨ps, es, ss⟩ := t
  refine ⟨_, ?_, ss.list⟩
  simp only [toPy, es]
  rfl
theorem sd_int {i : Int} (h : Builtin.Int.intBits i ≤ 400) (d : Nat) : Sd 401 d (.int i) := ⟨_, rfl, sp_int h d⟩
theorem sd_bl (b : Bool) (d : Nat) : Sd 0 d (.bl b) := ⟨_, rfl, sp_bool b d⟩
theorem sd_non (d : Nat) : Sd 0 d .non := ⟨_, rfl, sp_none d⟩
theorem sd_num {i : Int} (h : Builtin.Int.intBits i ≤ 400) (d : Nat) : Sd 200 d (.str (toString i)) := ⟨_, rfl, sp_num h d⟩
theorem toPyM_of {x : D} {p : PyData} (h : toPy x = some p) (M : Mem) : toPyM x M = some p := by
  cases x with
  | own n => simp [toPy] at h
  | _ => exact h
theorem ev_repr {x : D} {p : PyData} {M : Mem} (h : toPyM x M = some p) (hs : Shw p) : reprD [x] M = .ok (.str p.shown) M := by
  unfold reprD
  simp only [h]
  exact if_pos hs
theorem eq_ss (a : Str) (M : Mem) : eqD (.str a) (.str a) M = .ok (.bl true) M := by
  show Res.ok (D.bl (decide (a = a))) M = _
  rw [decide_eq_true rfl]
theorem ne_ss (a : Str) (M : Mem) : neD (.str a) (.str a) M = .ok (.bl false) M := by
  show Res.ok (D.bl (!decide (a = a))) M = _
  rw [decide_eq_true rfl]
  rfl
abbrev bSame : SD := (sRet (e2 eqD (eL reprD (aCons (eVar 0) aNil)) (eL reprD (aCons (eVar 1) aNil))))
theorem run_same {x y : D} {p : PyData} {M : Mem} (h1 : toPyM x M = some p) (h2 : toPyM y M = some p) (hs : Shw p) : runB 2 bSame [x, y] M = .ok (.bl true) M := by
  have r1 := ev_repr h1 hs
  have r2 := ev_repr h2 hs
  unfold bSame
  simp only [runB, sSeq, sIf, sNil, sPass, sCont, sPar, sAsg, sRet, sExpr, liftR, tAndM, tOrM, tNotM, tB, tTr, truD, e2, e1, eChain, eVar, eC, eL, eIf, eAnd, eOr, eNot, eTup, eLst, eBits, aCons, aNil, Res.bind, asgR, asgL, Pat.asg, List.map_cons, List.map_nil, List.set, Option.bind, Option.bind_some, List.getElem?_cons_succ, List.getElem?_cons_zero, List.length_cons, List.length_nil, List.replicate_succ, List.replicate_zero, List.cons_append, List.nil_append, Nat.reduceAdd, Nat.reduceSub, Nat.reduceLeDiff, Nat.zero_add, decide_true, decide_false, if_true, if_false, Bool.false_eq_true, Bool.not_true, Bool.not_false, eq_ii, ne_ii, lt_ii, gt_ii, le_ii, ge_ii, add_ii, sub_ii, r1, r2, eq_ss]
end DL
namespace DL
open PySem PySem.Spec
/-! ### stepping: one statement after the other -/
theorem seq_nx {a b : SD} {ρ ρ1 : Env} {M M1 : Mem} (h : a ρ M = .nx ρ1 M1) : sSeq a b ρ M = b ρ1 M1 := by
  unfold sSeq
  rw [h]
theorem seq_rt {a b : SD} {ρ : Env} {d : D} {M M1 : Mem} (h : a ρ M = .rt d M1) : sSeq a b ρ M = .rt d M1 := by
  unfold sSeq
  rw [h]
theorem seq_exc {a b : SD} {ρ ρ1 : Env} {e : Exn} {M M1 : Mem} (h : a ρ M = .exc e ρ1 M1) : sSeq a b ρ M = .exc e ρ1 M1 := by
  unfold sSeq
  rw [h]
theorem seq_ct {a b : SD} {ρ ρ1 : Env} {M M1 : Mem} (h : a ρ M = .ct ρ1 M1) : sSeq a b ρ M = .ct ρ1 M1 := by
  unfold sSeq
  rw [h]
theorem seq_bk {a b : SD} {ρ ρ1 : Env} {M M1 : Mem} (h : a ρ M = .bk ρ1 M1) : sSeq a b ρ M = .bk ρ1 M1 := by
  unfold sSeq
  rw [h]
theorem if_tt {c : Env → Mem → Res Bool} {a b : SD} {ρ : Env} {M M1 : Mem} (h : c ρ M = .ok true M1) : sIf c a b ρ M = a ρ M1 := by
  unfold sIf
  rw [h]
  rfl
theorem if_ff {c : Env → Mem → Res Bool} {a b : SD} {ρ : Env} {M M1 : Mem} (h : c ρ M = .ok false M1) : sIf c a b ρ M = b ρ M1 := by
  unfold sIf
  rw [h]
  rfl
theorem run_rt {k : Nat} {b : SD} {xs : List D} {d : D} {M M1 : Mem} (h : b (xs.map some ++ List.replicate (k - xs.length) none) M = .rt d M1) : runB k b xs M = .ok d M1 := by
  unfold runB
  rw [h]
theorem run_nx {k : Nat} {b : SD} {xs : List D} {ρ1 : Env} {M M1 : Mem} (h : b (xs.map some ++ List.replicate (k - xs.length) none) M = .nx ρ1 M1) : runB k b xs M = .ok .non M1 := by
  unfold runB
  rw [h]
theorem run_exc {k : Nat} {b : SD} {xs : List D} {ρ1 : Env} {e : Exn} {M M1 : Mem} (h : b (xs.map some ++ List.replicate (k - xs.length) none) M = .exc e ρ1 M1) : runB k b xs M = .exc e M1 := by
  unfold runB
  rw [h]
theorem asg_of {p : Pat} {m : Env → Mem → Res D} {ρ ρ1 : Env} {d : D} {M M1 : Mem} (h : m ρ M = .ok d M1) (h2 : p.asg d ρ = some ρ1) : sAsg p m ρ M = .nx ρ1 M1 := by
  unfold sAsg
  rw [h]
  show asgR (p.asg d ρ) M1 = _
  rw [h2]
  rfl
theorem for_of {it : Env → Mem → Res (List D)} {p : Pat} {b : SD} {ρ : Env} {l : List D} {M M1 : Mem} (h : it ρ M = .ok l M1) : sFor it p b ρ M = forL p b l ρ M1 := by
  unfold sFor
  rw [h]
  rfl
theorem eK_of {g : GL} {n j : Nat} {π : List Nat} {pa ka : Env → Mem → Res (List D)} {ρ : Env} {M M1 M2 : Mem} {ps ks : List D} (h1 : pa ρ M = .ok ps M1) (h2 : ka ρ M1 = .ok ks M2) (h3 : ps.length = n ∧ ks.length = j) : eK g n j π pa ka ρ M = g (permD π (ps ++ ks)) M2 := by
  unfold eK
  rw [h1]
  show (ka ρ M1).bind _ = _
  rw [h2]
  show (if ps.length = n ∧ ks.length = j then _ else _) = _
  rw [if_pos h3]
/-! ### a list that grows by what calls tell -/
theorem app_go {P : SR → Prop} {M : Mem} {h i : Nat} {l : List D} {E : Env → Mem → Res D} {t : D} {ρ : Env} {b : SD} (hi : ρ[i]? = some (some (.own h))) (hM : M[h]? = some (some (.lst l))) (hl : l.length < 1000) (hE : E ρ M = .ok t M)
    (k : ∀ M' : Mem, M'[h]? = some (some (.lst (l ++ [t]))) → (∀ j, j ≠ h → M'[j]? = M[j]?) → P (b ρ M')) : P (sSeq (sExpr (eM "list" appendD (eVar i) (aCons E aNil))) b ρ M) := by
  have ty : tyM "list" (.own h) M = true := by
    unfold tyM
    simp only [hM]
    rfl
  have ap : appendD (.own h) [t] M = .ok .non (M.set h (some (.lst (l ++ [t])))) := by
    unfold appendD
    simp only [hM]
    rw [if_pos (by omega)]
    rfl
  have s : sExpr (eM "list" appendD (eVar i) (aCons E aNil)) ρ M = .nx ρ (M.set h (some (.lst (l ++ [t])))) := by
    unfold sExpr eM
    simp only [eVar, hi, Res.bind, ty, if_true, aCons, aNil, hE, ap, liftR]
  rw [seq_nx s]
  exact k _ (set_at hM) fun j hj => List.getElem?_set_ne fun z => hj z.symm
theorem own_one {M : Mem} {E : Env → Mem → Res D} {t : D} {ρ : Env} (hE : E ρ M = .ok t M) : eOwn (aCons E aNil) ρ M = .ok (.own M.length) (M ++ [some (.lst [t])]) := by
  unfold eOwn
  simp only [aCons, aNil, hE, Res.bind]
  rfl
theorem at_last (M : Mem) (o : Option MO) : (M ++ [o])[M.length]? = some o := by simp
theorem same_own {M : Mem} {h n d : Nat} {l : List D} (hM : M[h]? = some (some (.lst l))) (hs : SdL n d l) (hn : n ≤ 70000) (hd : d < 40) : runB 2 bSame [.own h, .lst l] M = .ok (.bl true) M := by
  obtain ⟨ps, eps, sps⟩ := hs
  refine run_same (p := .list ps) ?_ ?_ (sps.list.shw hn hd)
  · unfold toPyM
    simp only [hM, eps]
    rfl
  · show Option.map _ (toPyL l) = _
    rw [eps]
    rfl
end DL
namespace K02
open PySem DL
def b_is_whole : SD := (sRet (eAnd (eL isD (aCons (eVar 0) (aCons (eC (.ty "int")) aNil))) (eAnd (eNot (eL isD (aCons (eVar 0) (aCons (eC (.ty "bool")) aNil)))) (e2 leD (eBits (eVar 0)) (eC (.int 20000))))))
def m_is_whole : GL := runB 1 b_is_whole
def b_is_whole_between : SD := (sRet (eAnd (eL m_is_whole (aCons (eVar 0) aNil)) (eChain leD leD (eVar 1) (eVar 0) (eVar 2))))
def m_is_whole_between : GL := runB 3 b_is_whole_between
def b_is_tuple_of : SD := (sRet (eAnd (eL isD (aCons (eVar 0) (aCons (eC (.ty "tuple")) aNil))) (e2 eqD (eL lenD (aCons (eVar 0) aNil)) (eVar 1))))
def m_is_tuple_of : GL := runB 2 b_is_tuple_of
def b_whole_power : SD := (sSeq (sAsg (.nm 2) (eC (.int 1))) (sSeq (sWhile 100000 (tB (e2 gtD (eVar 1) (eC (.int 0)))) (sSeq (sIf (tB (e2 eqD (e2 modD (eVar 1) (eC (.int 2))) (eC (.int 1)))) (sAsg (.nm 2) (e2 mulI (eVar 2) (eVar 0))) sNil) (sPar [0, 1] (aCons (e2 mulI (eVar 0) (eVar 0)) (aCons (e2 divD (eVar 1) (eC (.int 2))) aNil))))) (sRet (eVar 2))))
def m_whole_power : GL := runB 3 b_whole_power
def b_made : SD := (sSeq (sAsg (.nm 2) (eL gcdD (aCons (eVar 0) (aCons (eVar 1) aNil)))) (sSeq (sIf (tB (e2 ltD (eVar 1) (eC (.int 0)))) (sAsg (.nm 2) (e1 negD (eVar 2))) sNil) (sRet (eTup (aCons (e2 divD (eVar 0) (eVar 2)) (aCons (e2 divD (eVar 1) (eVar 2)) aNil))))))
def m_made : GL := runB 3 b_made
def b_whole_root : SD := (sSeq (sIf (tOrM (tB (e2 ltD (eVar 0) (eC (.int 2)))) (tB (e2 eqD (eVar 1) (eC (.int 1))))) (sRet (eVar 0)) sNil) (sSeq (sPar [2, 3] (aCons (eC (.int 1)) (aCons (eL m_whole_power (aCons (eC (.int 2)) (aCons (e2 addD (e2 divD (eBits (eVar 0)) (eVar 1)) (eC (.int 1))) aNil))) aNil))) (sSeq (sWhile 100000 (tB (e2 gtD (e2 subD (eVar 3) (eVar 2)) (eC (.int 1)))) (sSeq (sAsg (.nm 4) (e2 divD (e2 addD (eVar 2) (eVar 3)) (eC (.int 2)))) (sIf (tB (e2 leD (eL m_whole_power (aCons (eVar 4) (aCons (eVar 1) aNil))) (eVar 0))) (sAsg (.nm 2) (eVar 4)) (sAsg (.nm 3) (eVar 4))))) (sRet (eVar 2)))))
def m_whole_root : GL := runB 5 b_whole_root
def b_is_power_to : SD := (sRet (e2 eqD (eL m_whole_power (aCons (eL m_whole_root (aCons (eVar 0) (aCons (eVar 1) aNil))) (aCons (eVar 1) aNil))) (eVar 0)))
def m_is_power_to : GL := runB 2 b_is_power_to
def b_shared_degree : SD := (sSeq (sIf (tAndM (tB (e2 eqD (eVar 0) (eC (.int 1)))) (tB (e2 eqD (eVar 1) (eC (.int 1))))) (sRet (eVar 2)) sNil) (sSeq (sPar [3, 4, 5] (aCons (eVar 2) (aCons (eC (.int 2)) (aCons (eL maxD (aCons (eBits (eVar 0)) (aCons (eBits (eVar 1)) aNil))) aNil)))) (sSeq (sWhile 100000 (tAndM (tB (e2 gtD (eVar 3) (eC (.int 1)))) (tB (e2 leD (eVar 4) (eVar 5)))) (sSeq (sIf (tB (e2 eqD (e2 modD (eVar 3) (eVar 4)) (eC (.int 0)))) (sSeq (sIf (tAndM (tTr (eL m_is_power_to (aCons (eVar 0) (aCons (eVar 4) aNil)))) (tTr (eL m_is_power_to (aCons (eVar 1) (aCons (eVar 4) aNil))))) (sRet (eVar 4)) sNil) (sWhile 100000 (tB (e2 eqD (e2 modD (eVar 3) (eVar 4)) (eC (.int 0)))) (sAsg (.nm 3) (e2 divD (eVar 3) (eVar 4))))) sNil) (sAsg (.nm 4) (e2 addD (eVar 4) (eC (.int 1)))))) (sRet (eC (.int 1))))))
def m_shared_degree : GL := runB 6 b_shared_degree
def b_lowest : SD := (sSeq (sAsg (.nm 3) (eL gcdD (aCons (eVar 0) (aCons (eVar 1) aNil)))) (sSeq (sPar [0, 1] (aCons (e2 divD (eVar 0) (eVar 3)) (aCons (e2 divD (eVar 1) (eVar 3)) aNil))) (sSeq (sAsg (.nm 4) (eL m_shared_degree (aCons (eVar 0) (aCons (eVar 1) (aCons (eVar 2) aNil))))) (sSeq (sWhile 100000 (tB (e2 gtD (eVar 4) (eC (.int 1)))) (sSeq (sPar [0, 1, 2] (aCons (eL m_whole_root (aCons (eVar 0) (aCons (eVar 4) aNil))) (aCons (eL m_whole_root (aCons (eVar 1) (aCons (eVar 4) aNil))) (aCons (e2 divD (eVar 2) (eVar 4)) aNil)))) (sAsg (.nm 4) (eL m_shared_degree (aCons (eVar 0) (aCons (eVar 1) (aCons (eVar 2) aNil))))))) (sRet (eTup (aCons (eVar 0) (aCons (eVar 1) (aCons (eVar 2) aNil)))))))))
def m_lowest : GL := runB 5 b_lowest
def b_is_value_form : SD := (sSeq (sIf (tOrM (tNotM (tTr (eL m_is_tuple_of (aCons (eVar 0) (aCons (eC (.int 3)) aNil))))) (tNotM (tTr (eL allD (aCons (eLc (iSeq (eVar 0)) (.nm 4) [4] cYes (eL m_is_whole (aCons (eVar 4) aNil))) aNil))))) (sRet (eC (.bl false))) sNil) (sSeq (sAsg (.tp [(.nm 1), (.nm 2), (.nm 3)]) (eVar 0)) (sSeq (sIf (tOrM (tB (e2 ltD (eVar 2) (eC (.int 1)))) (tOrM (tB (e2 ltD (eVar 3) (eC (.int 1)))) (tB (e2 neD (eL gcdD (aCons (eVar 1) (aCons (eVar 2) aNil))) (eC (.int 1)))))) (sRet (eC (.bl false))) sNil) (sSeq (sIf (tB (e2 eqD (eVar 3) (eC (.int 1)))) (sRet (eC (.bl true))) sNil) (sRet (eAnd (e2 geD (eVar 1) (eC (.int 1))) (e2 eqD (eL m_shared_degree (aCons (eVar 1) (aCons (eVar 2) (aCons (eVar 3) aNil)))) (eC (.int 1)))))))))
def m_is_value_form : GL := runB 5 b_is_value_form
def b_is_positive_value : SD := (sRet (eAnd (eL m_is_value_form (aCons (eVar 0) aNil)) (e2 gtD (e2 ixD (eVar 0) (eC (.int 0))) (eC (.int 0)))))
def m_is_positive_value : GL := runB 1 b_is_positive_value
def b_is_fraction_value : SD := (sRet (eAnd (eL m_is_value_form (aCons (eVar 0) aNil)) (e2 eqD (e2 ixD (eVar 0) (eC (.int 2))) (eC (.int 1)))))
def m_is_fraction_value : GL := runB 1 b_is_fraction_value
def b_compared : SD := (sSeq (sIf (tOrM (tB (e2 leD (e2 ixD (eVar 0) (eC (.int 0))) (eC (.int 0)))) (tOrM (tB (e2 leD (e2 ixD (eVar 1) (eC (.int 0))) (eC (.int 0)))) (tAndM (tB (e2 eqD (e2 ixD (eVar 0) (eC (.int 2))) (eC (.int 1)))) (tB (e2 eqD (e2 ixD (eVar 1) (eC (.int 2))) (eC (.int 1))))))) (sSeq (sAsg (.tp [(.nm 3), (.nm 4)]) (eIf (tB (eChain eqD eqD (e2 ixD (eVar 0) (eC (.int 2))) (e2 ixD (eVar 1) (eC (.int 2))) (eC (.int 1)))) (eTup (aCons (e2 mulI (e2 ixD (eVar 0) (eC (.int 0))) (e2 ixD (eVar 1) (eC (.int 1)))) (aCons (e2 mulI (e2 ixD (eVar 1) (eC (.int 0))) (e2 ixD (eVar 0) (eC (.int 1)))) aNil))) (eTup (aCons (e2 ixD (eVar 0) (eC (.int 0))) (aCons (e2 ixD (eVar 1) (eC (.int 0))) aNil))))) (sSeq (sIf (tOrM (tB (e2 neD (e2 ixD (eVar 0) (eC (.int 2))) (eC (.int 1)))) (tB (e2 neD (e2 ixD (eVar 1) (eC (.int 2))) (eC (.int 1))))) (sPar [3, 4] (aCons (eL intD (aCons (e2 gtD (eVar 3) (eC (.int 0))) aNil)) (aCons (eL intD (aCons (e2 gtD (eVar 4) (eC (.int 0))) aNil)) aNil))) sNil) (sRet (e2 subD (eL intD (aCons (e2 gtD (eVar 3) (eVar 4)) aNil)) (eL intD (aCons (e2 ltD (eVar 3) (eVar 4)) aNil)))))) sNil) (sSeq (sAsg (.nm 2) (eL lcmD (aCons (e2 ixD (eVar 0) (eC (.int 2))) (aCons (e2 ixD (eVar 1) (eC (.int 2))) aNil)))) (sSeq (sPar [5, 6] (aCons (e2 divD (eVar 2) (e2 ixD (eVar 0) (eC (.int 2)))) (aCons (e2 divD (eVar 2) (e2 ixD (eVar 1) (eC (.int 2)))) aNil))) (sSeq (sAsg (.nm 3) (e2 mulI (eL m_whole_power (aCons (e2 ixD (eVar 0) (eC (.int 0))) (aCons (eVar 5) aNil))) (eL m_whole_power (aCons (e2 ixD (eVar 1) (eC (.int 1))) (aCons (eVar 6) aNil))))) (sSeq (sAsg (.nm 4) (e2 mulI (eL m_whole_power (aCons (e2 ixD (eVar 1) (eC (.int 0))) (aCons (eVar 6) aNil))) (eL m_whole_power (aCons (e2 ixD (eVar 0) (eC (.int 1))) (aCons (eVar 5) aNil))))) (sRet (e2 subD (eL intD (aCons (e2 gtD (eVar 3) (eVar 4)) aNil)) (eL intD (aCons (e2 ltD (eVar 3) (eVar 4)) aNil)))))))))
def m_compared : GL := runB 7 b_compared
def b_multiplied_roots : SD := (sSeq (sAsg (.nm 2) (eL lcmD (aCons (e2 ixD (eVar 0) (eC (.int 2))) (aCons (e2 ixD (eVar 1) (eC (.int 2))) aNil)))) (sSeq (sPar [4, 5] (aCons (e2 divD (eVar 2) (e2 ixD (eVar 0) (eC (.int 2)))) (aCons (e2 divD (eVar 2) (e2 ixD (eVar 1) (eC (.int 2)))) aNil))) (sSeq (sAsg (.nm 3) (e2 mulI (eL m_whole_power (aCons (e2 ixD (eVar 0) (eC (.int 0))) (aCons (eVar 4) aNil))) (eL m_whole_power (aCons (e2 ixD (eVar 1) (eC (.int 0))) (aCons (eVar 5) aNil))))) (sRet (eL m_lowest (aCons (eVar 3) (aCons (e2 mulI (eL m_whole_power (aCons (e2 ixD (eVar 0) (eC (.int 1))) (aCons (eVar 4) aNil))) (eL m_whole_power (aCons (e2 ixD (eVar 1) (eC (.int 1))) (aCons (eVar 5) aNil)))) (aCons (eVar 2) aNil))))))))
def m_multiplied_roots : GL := runB 6 b_multiplied_roots
def b_powered : SD := (sSeq (sAsg (.tp [(.nm 3), (.nm 4), (.nm 5)]) (eVar 0)) (sSeq (sIf (tB (e2 ltD (e2 ixD (eVar 1) (eC (.int 0))) (eC (.int 0)))) (sPar [3, 4] (aCons (eVar 4) (aCons (eVar 3) aNil))) sNil) (sSeq (sAsg (.nm 2) (eL absD (aCons (e2 ixD (eVar 1) (eC (.int 0))) aNil))) (sRet (eL m_lowest (aCons (eL m_whole_power (aCons (eVar 3) (aCons (eVar 2) aNil))) (aCons (eL m_whole_power (aCons (eVar 4) (aCons (eVar 2) aNil))) (aCons (e2 mulI (eVar 5) (e2 ixD (eVar 1) (eC (.int 1)))) aNil))))))))
def m_powered : GL := runB 6 b_powered
def b_need_value : SD := (sIf (tNotM (tTr (eL m_is_value_form (aCons (eVar 0) aNil)))) (sRaise "BadValue" (eVar 0)) sNil)
def m_need_value : GL := runB 1 b_need_value
def b_compare : SD := (sSeq (sExpr (eL m_need_value (aCons (eVar 0) aNil))) (sSeq (sExpr (eL m_need_value (aCons (eVar 1) aNil))) (sRet (eL m_compared (aCons (eVar 0) (aCons (eVar 1) aNil))))))
def m_compare : GL := runB 2 b_compare
def b_times : SD := (sSeq (sExpr (eL m_need_value (aCons (eVar 0) aNil))) (sSeq (sExpr (eL m_need_value (aCons (eVar 1) aNil))) (sSeq (sIf (tB (eChain eqD eqD (e2 ixD (eVar 0) (eC (.int 2))) (e2 ixD (eVar 1) (eC (.int 2))) (eC (.int 1)))) (sRet (eTup (aStar (eL m_made (aCons (e2 mulI (e2 ixD (eVar 0) (eC (.int 0))) (e2 ixD (eVar 1) (eC (.int 0)))) (aCons (e2 mulI (e2 ixD (eVar 0) (eC (.int 1))) (e2 ixD (eVar 1) (eC (.int 1)))) aNil))) (aCons (eC (.int 1)) aNil)))) sNil) (sSeq (sFor (iSeq (eTup (aCons (eVar 0) (aCons (eVar 1) aNil)))) (.nm 2) (sIf (tB (e2 leD (e2 ixD (eVar 2) (eC (.int 0))) (eC (.int 0)))) (sRaise "BadValue" (eVar 2)) sNil)) (sRet (eL m_multiplied_roots (aCons (eVar 0) (aCons (eVar 1) aNil))))))))
def m_times : GL := runB 3 b_times
def b_power : SD := (sSeq (sIf (tNotM (tTr (eL m_is_positive_value (aCons (eVar 0) aNil)))) (sRaise "BadValue" (eVar 0)) sNil) (sSeq (sIf (tNotM (tTr (eL m_is_whole_between (aCons (eVar 1) (aCons (e1 negD (eC (.int 64))) (aCons (eC (.int 64)) aNil)))))) (sRaise "BadMany" (eVar 1)) sNil) (sSeq (sIf (tNotM (tTr (eL m_is_whole_between (aCons (eVar 2) (aCons (eC (.int 1)) (aCons (eC (.int 64)) aNil)))))) (sRaise "BadMany" (eVar 2)) sNil) (sRet (eL m_powered (aCons (eVar 0) (aCons (eL m_made (aCons (eVar 1) (aCons (eVar 2) aNil))) aNil)))))))
def m_power : GL := runB 3 b_power
def b_plus : SD := (sSeq (sFor (iSeq (eTup (aCons (eVar 0) (aCons (eVar 1) aNil)))) (.nm 2) (sIf (tNotM (tTr (eL m_is_fraction_value (aCons (eVar 2) aNil)))) (sRaise "BadValue" (eVar 2)) sNil)) (sRet (eTup (aStar (eL m_made (aCons (e2 addD (e2 mulI (e2 ixD (eVar 0) (eC (.int 0))) (e2 ixD (eVar 1) (eC (.int 1)))) (e2 mulI (e2 ixD (eVar 1) (eC (.int 0))) (e2 ixD (eVar 0) (eC (.int 1))))) (aCons (e2 mulI (e2 ixD (eVar 0) (eC (.int 1))) (e2 ixD (eVar 1) (eC (.int 1)))) aNil))) (aCons (eC (.int 1)) aNil)))))
def m_plus : GL := runB 3 b_plus
def b_law_deck : SD := (sSeq (sAsg (.nm 2) (eVar 1)) (sSeq (sFor (iSeq (eSl slD (eVar 0) oNone (oSome (eC (.int 63))))) (.nm 3) (sAsg (.nm 2) (e2 modD (eL intD (aCons (e2 addD (e2 addD (e2 mulI (eVar 2) (eC (.int 48271))) (e2 modD (eL intD (aCons (eVar 3) aNil)) (eC (.int 2147483629)))) (eC (.int 151))) aNil)) (eC (.int 2147483587))))) (sRet (eDict ["left", "mixed", "draws"] [(e1 revO (eLc (iSeq (eSl slD (eVar 0) oNone (oSome (eC (.int 63))))) (.nm 3) [3] cYes (eL intD (aCons (eVar 3) aNil)))), (eVar 2), (eC (.int 0))]))))
def m_law_deck : GL := runB 4 b_law_deck
def b_law_draw : SD := (sSeq (sPut (eVar 0) (eC (.str "draws")) (e2 addD (e2 dgetD (eVar 0) (eC (.str "draws"))) (eC (.int 1)))) (sSeq (sAsg (.nm 2) (e2 addD (e2 dgetD (eVar 0) (eC (.str "mixed"))) (e2 mulI (eC (.int 69621)) (e2 dgetD (eVar 0) (eC (.str "draws")))))) (sSeq (sIf (tB (e2 neD (e2 dgetD (eVar 0) (eC (.str "left"))) (eLst aNil))) (sSeq (sAsg (.nm 3) (eM0 "list" popD (e2 dgetD (eVar 0) (eC (.str "left"))))) (sSeq (sIf (tB (e2 geD (eVar 3) (e2 powD (eC (.int 10)) (eC (.int 18))))) (sSeq (sExpr (eM "list" appendD (e2 dgetD (eVar 0) (eC (.str "left"))) (aCons (e2 divD (eVar 3) (eL maxD (aCons (eC (.int 2)) (aCons (eVar 1) aNil)))) aNil))) (sRet (e2 modD (eL intD (aCons (eVar 3) aNil)) (eVar 1)))) sNil) (sAsg (.nm 2) (e2 addD (eVar 2) (e2 modD (eL intD (aCons (eVar 3) aNil)) (eC (.int 2147483629))))))) sNil) (sSeq (sAsg (.nm 2) (e2 modD (eL intD (aCons (e2 addD (e2 mulI (eVar 2) (eC (.int 40692))) (eC (.int 21501))) aNil)) (eC (.int 2147483563)))) (sSeq (sAsg (.nm 2) (e2 modD (eL intD (aCons (e2 addD (e2 addD (e2 mulI (eVar 2) (eVar 2)) (e2 mulI (eC (.int 52774)) (e2 dgetD (eVar 0) (eC (.str "draws"))))) (eC (.int 7))) aNil)) (eC (.int 2147483399)))) (sRet (e2 modD (eL intD (aCons (e2 divD (e2 modD (eL intD (aCons (e2 mulI (eVar 2) (eC (.int 40014))) aNil)) (eC (.int 2147483563))) (eC (.int 64))) aNil)) (eVar 1))))))))
def m_law_draw : GL := runB 4 b_law_draw
def b_law_pick : SD := (sRet (e2 ixD (eVar 1) (eL m_law_draw (aCons (eVar 0) (aCons (eL lenD (aCons (eVar 1) aNil)) aNil)))))
def m_law_pick : GL := runB 2 b_law_pick
def b_law_same : SD := (sRet (e2 eqD (eL reprD (aCons (eVar 0) aNil)) (eL reprD (aCons (eVar 1) aNil))))
def m_law_same : GL := runB 2 b_law_same
def b_law_gcd : SD := (sSeq (sPar [0, 1] (aCons (eL absD (aCons (eVar 0) aNil)) (aCons (eL absD (aCons (eVar 1) aNil)) aNil))) (sSeq (sWhile 100000 (tB (e2 neD (eVar 1) (eC (.int 0)))) (sPar [0, 1] (aCons (eVar 1) (aCons (e2 modD (eL intD (aCons (eVar 0) aNil)) (eVar 1)) aNil)))) (sRet (eVar 0))))
def m_law_gcd : GL := runB 2 b_law_gcd
def b_law_low : SD := (sSeq (sAsg (.nm 2) (eIf (tB (e2 gtD (eVar 1) (eC (.int 0)))) (eL m_law_gcd (aCons (eVar 0) (aCons (eVar 1) aNil))) (e1 negD (eL m_law_gcd (aCons (eVar 0) (aCons (eVar 1) aNil)))))) (sRet (eTup (aCons (e2 divD (eVar 0) (eVar 2)) (aCons (e2 divD (eVar 1) (eVar 2)) aNil)))))
def m_law_low : GL := runB 3 b_law_low
def b_law_fraction : SD := (sRet (eL m_law_low (aCons (e2 subD (eL m_law_draw (aCons (eVar 0) (aCons (e2 addD (e2 mulI (eC (.int 2)) (eVar 1)) (eC (.int 1))) aNil))) (eVar 1)) (aCons (eL m_law_pick (aCons (eVar 0) (aCons (eVar 2) aNil))) aNil))))
def m_law_fraction : GL := runB 3 b_law_fraction
def b_law_add : SD := (sRet (eL m_law_low (aCons (e2 addD (e2 mulI (e2 ixD (eVar 0) (eC (.int 0))) (e2 ixD (eVar 1) (eC (.int 1)))) (e2 mulI (e2 ixD (eVar 1) (eC (.int 0))) (e2 ixD (eVar 0) (eC (.int 1))))) (aCons (e2 mulI (e2 ixD (eVar 0) (eC (.int 1))) (e2 ixD (eVar 1) (eC (.int 1)))) aNil))))
def m_law_add : GL := runB 2 b_law_add
def b_law_mul : SD := (sRet (eL m_law_low (aCons (e2 mulI (e2 ixD (eVar 0) (eC (.int 0))) (e2 ixD (eVar 1) (eC (.int 0)))) (aCons (e2 mulI (e2 ixD (eVar 0) (eC (.int 1))) (e2 ixD (eVar 1) (eC (.int 1)))) aNil))))
def m_law_mul : GL := runB 2 b_law_mul
def b_law_pow : SD := (sSeq (sPar [2, 1] (aCons (eC (.int 1)) (aCons (eL intD (aCons (eVar 1) aNil)) aNil))) (sSeq (sWhile 100000 (tB (e2 gtD (eVar 1) (eC (.int 0)))) (sPar [2, 0, 1] (aCons (eIf (tB (e2 eqD (e2 andD (eVar 1) (eC (.int 1))) (eC (.int 1)))) (e2 mulI (eVar 2) (eVar 0)) (eVar 2)) (aCons (eIf (tB (e2 gtD (eVar 1) (eC (.int 1)))) (e2 mulI (eVar 0) (eVar 0)) (eVar 0)) (aCons (e2 shrD (eVar 1) (eC (.int 1))) aNil))))) (sRet (eVar 2))))
def m_law_pow : GL := runB 3 b_law_pow
def b_law_int_root : SD := (sSeq (sAsg (.nm 2) (eC (.int 0))) (sSeq (sFor (iSeq (e1 revD (eListRg (e2 addD (e2 divD (eBits (eVar 0)) (eVar 1)) (eC (.int 1)))))) (.nm 3) (sIf (tB (e2 leD (eL m_law_pow (aCons (e2 orD (eVar 2) (e2 shlD (eC (.int 1)) (eVar 3))) (aCons (eVar 1) aNil))) (eVar 0))) (sAsg (.nm 2) (e2 orD (eVar 2) (e2 shlD (eC (.int 1)) (eVar 3)))) sNil)) (sRet (eIf (tB (e2 eqD (eL m_law_pow (aCons (eVar 2) (aCons (eVar 1) aNil))) (eVar 0))) (eVar 2) (e1 negD (eC (.int 1)))))))
def m_law_int_root : GL := runB 4 b_law_int_root
def b_law_value : SD := (sSeq (sAsg (.tp [(.nm 0), (.nm 1)]) (eL m_law_low (aCons (eVar 0) (aCons (eVar 1) aNil)))) (sSeq (sIf (tAndM (tB (e2 eqD (eVar 0) (eC (.int 1)))) (tB (e2 eqD (eVar 1) (eC (.int 1))))) (sRet (eTup (aCons (eC (.int 1)) (aCons (eC (.int 1)) (aCons (eC (.int 1)) aNil))))) sNil) (sSeq (sFor (iRange2 (aCons (eC (.int 2)) (aCons (e2 addD (eL minD (aCons (eVar 2) (aCons (eL maxD (aCons (eBits (eL absD (aCons (eVar 0) aNil))) (aCons (eBits (eVar 1)) aNil))) aNil))) (eC (.int 1))) aNil))) (.nm 3) (sFor (iRange1 (aCons (eC (.int 9)) aNil)) (.nm 4) (sSeq (sAsg (.tp [(.nm 5), (.nm 6)]) (eIf (tB (e2 eqD (e2 modD (eL intD (aCons (eVar 2) aNil)) (eVar 3)) (eC (.int 0)))) (eTup (aCons (eL m_law_int_root (aCons (eVar 0) (aCons (eVar 3) aNil))) (aCons (eL m_law_int_root (aCons (eVar 1) (aCons (eVar 3) aNil))) aNil))) (eTup (aCons (e1 negD (eC (.int 1))) (aCons (e1 negD (eC (.int 1))) aNil))))) (sIf (tAndM (tB (e2 gtD (eVar 5) (eC (.int 0)))) (tB (e2 gtD (eVar 6) (eC (.int 0))))) (sPar [0, 1, 2] (aCons (eVar 5) (aCons (eVar 6) (aCons (e2 divD (eVar 2) (eVar 3)) aNil)))) sNil)))) (sRet (eTup (aCons (eVar 0) (aCons (eVar 1) (aCons (eL intD (aCons (eVar 2) aNil)) aNil))))))))
def m_law_value : GL := runB 7 b_law_value
def b_law_multiple : SD := (sSeq (sAsg (.nm 1) (eC (.int 1))) (sSeq (sFor (iSeq (eVar 0)) (.nm 2) (sAsg (.nm 1) (e2 divD (e2 mulI (eVar 1) (eVar 2)) (eL m_law_gcd (aCons (eVar 1) (aCons (eVar 2) aNil)))))) (sRet (eVar 1))))
def m_law_multiple : GL := runB 3 b_law_multiple
def b_law_times : SD := (sSeq (sIf (tAndM (tB (e2 eqD (e2 ixD (eVar 0) (eC (.int 2))) (eC (.int 1)))) (tB (e2 eqD (e2 ixD (eVar 1) (eC (.int 2))) (eC (.int 1))))) (sRet (e2 addD (eL m_law_mul (aCons (eSl slD (eVar 0) oNone (oSome (eC (.int 2)))) (aCons (eSl slD (eVar 1) oNone (oSome (eC (.int 2)))) aNil))) (eTup (aCons (eC (.int 1)) aNil)))) sNil) (sSeq (sAsg (.nm 2) (eL m_law_multiple (aCons (eLst (aCons (e2 ixD (eVar 0) (eC (.int 2))) (aCons (e2 ixD (eVar 1) (eC (.int 2))) aNil))) aNil))) (sSeq (sPar [3, 4] (aCons (e2 mulI (eL m_law_pow (aCons (e2 ixD (eVar 0) (eC (.int 0))) (aCons (e2 divD (eVar 2) (e2 ixD (eVar 0) (eC (.int 2)))) aNil))) (eL m_law_pow (aCons (e2 ixD (eVar 1) (eC (.int 0))) (aCons (e2 divD (eVar 2) (e2 ixD (eVar 1) (eC (.int 2)))) aNil)))) (aCons (e2 mulI (eL m_law_pow (aCons (e2 ixD (eVar 0) (eC (.int 1))) (aCons (e2 divD (eVar 2) (e2 ixD (eVar 0) (eC (.int 2)))) aNil))) (eL m_law_pow (aCons (e2 ixD (eVar 1) (eC (.int 1))) (aCons (e2 divD (eVar 2) (e2 ixD (eVar 1) (eC (.int 2)))) aNil)))) aNil))) (sRet (eL m_law_value (aCons (eVar 3) (aCons (eVar 4) (aCons (eVar 2) aNil))))))))
def m_law_times : GL := runB 5 b_law_times
def b_law_power : SD := (sSeq (sAsg (.tp [(.nm 3), (.nm 4)]) (eIf (tB (e2 geD (eVar 1) (eC (.int 0)))) (eTup (aCons (e2 ixD (eVar 0) (eC (.int 0))) (aCons (e2 ixD (eVar 0) (eC (.int 1))) aNil))) (eTup (aCons (e2 ixD (eVar 0) (eC (.int 1))) (aCons (e2 ixD (eVar 0) (eC (.int 0))) aNil))))) (sRet (eIf (tB (e2 neD (eVar 1) (eC (.int 0)))) (eL m_law_value (aCons (eL m_law_pow (aCons (eVar 3) (aCons (eL absD (aCons (eVar 1) aNil)) aNil))) (aCons (eL m_law_pow (aCons (eVar 4) (aCons (eL absD (aCons (eVar 1) aNil)) aNil))) (aCons (e2 mulI (e2 ixD (eVar 0) (eC (.int 2))) (eVar 2)) aNil)))) (eTup (aCons (eC (.int 1)) (aCons (eC (.int 1)) (aCons (eC (.int 1)) aNil)))))))
def m_law_power : GL := runB 5 b_law_power
def h_law_refused : Exn → Option D := fun e => if e.cls = "BadValue" then some (.tup [.str "value", e.thing]) else if e.cls = "BadMany" then some (.tup [.str "many", e.thing]) else none
def g_law_refused (th : Mem → Res D) : Mem → Res D := fun M => match th M with
  | .ok d M' => .ok (.tup [.str "told", d]) M'
  | .exc e M' => (match h_law_refused e with
    | some d => .ok d M'
    | none => .bad)
  | .bad => .bad
def b_law_positive : SD := (sSeq (sPar [2, 3] (aCons (eL m_law_pick (aCons (eVar 0) (aCons (eLst (aCons (eC (.int 1)) (aCons (eC (.int 2)) (aCons (eC (.int 3)) (aCons (eC (.int 4)) (aCons (eC (.int 5)) (aCons (eC (.int 6)) (aCons (eC (.int 8)) (aCons (eC (.int 9)) (aCons (eC (.int 12)) (aCons (eC (.int 18)) (aCons (eC (.int 27)) aNil)))))))))))) aNil))) (aCons (eL m_law_pick (aCons (eVar 0) (aCons (eLst (aCons (eC (.int 1)) (aCons (eC (.int 1)) (aCons (eC (.int 2)) (aCons (eC (.int 3)) (aCons (eC (.int 4)) (aCons (eC (.int 5)) (aCons (eC (.int 8)) aNil)))))))) aNil))) aNil))) (sRet (eL m_law_value (aCons (eVar 2) (aCons (eVar 3) (aCons (eL m_law_pick (aCons (eVar 0) (aCons (eLc (iSeq (eTup (aCons (eC (.int 1)) (aCons (eC (.int 1)) (aCons (eC (.int 2)) (aCons (eC (.int 3)) (aCons (eC (.int 4)) (aCons (eC (.int 6)) (aCons (eC (.int 8)) aNil))))))))) (.nm 4) [4] (tB (e2 leD (eVar 4) (eVar 1))) (eVar 4)) aNil))) aNil))))))
def m_law_positive : GL := runB 5 b_law_positive
def b_law_are_products_right : SD := (sSeq (sPar [7, 8, 9] (aCons (eL m_law_positive (aCons (eVar 0) (aCons (eC (.int 6)) aNil))) (aCons (eL m_law_positive (aCons (eVar 0) (aCons (eC (.int 4)) aNil))) (aCons (eL m_law_positive (aCons (eVar 0) (aCons (eC (.int 3)) aNil))) aNil)))) (sSeq (sAsg (.nm 1) (eL m_law_times (aCons (eVar 7) (aCons (eVar 8) aNil)))) (sSeq (sAsg (.nm 2) (eLst (aCons (eL m_times (aCons (eVar 7) (aCons (eVar 8) aNil))) (aCons (eK m_times 0 2 [1, 0] aNil (aCons (eVar 7) (aCons (eVar 8) aNil))) (aCons (eL m_times (aCons (eL m_times (aCons (eVar 7) (aCons (eVar 8) aNil))) (aCons (eVar 9) aNil))) (aCons (eL m_times (aCons (eVar 7) (aCons (eL m_times (aCons (eVar 8) (aCons (eVar 9) aNil))) aNil))) (aCons (eL m_times (aCons (eVar 7) (aCons (eL m_power (aCons (eVar 7) (aCons (e1 negD (eC (.int 1))) (aCons (eC (.int 1)) aNil)))) aNil))) aNil))))))) (sSeq (sAsg (.nm 3) (eL m_law_times (aCons (eVar 1) (aCons (eVar 9) aNil)))) (sSeq (sIf (tNotM (tTr (eL m_law_same (aCons (eVar 2) (aCons (eLst (aCons (eVar 1) (aCons (eVar 1) (aCons (eVar 3) (aCons (eVar 3) (aCons (eTup (aCons (eC (.int 1)) (aCons (eC (.int 1)) (aCons (eC (.int 1)) aNil)))) aNil)))))) aNil))))) (sRet (eC (.bl false))) sNil) (sSeq (sPar [10, 11, 12] (aCons (eL m_law_pick (aCons (eVar 0) (aCons (eLst (aCons (e1 negD (eC (.int 3))) (aCons (e1 negD (eC (.int 2))) (aCons (e1 negD (eC (.int 1))) (aCons (eC (.int 0)) (aCons (eC (.int 1)) (aCons (eC (.int 2)) (aCons (eC (.int 3)) (aCons (eC (.int 5)) aNil))))))))) aNil))) (aCons (eL m_law_pick (aCons (eVar 0) (aCons (eLst (aCons (eC (.int 1)) (aCons (eC (.int 2)) (aCons (eC (.int 3)) (aCons (eC (.int 4)) aNil))))) aNil))) (aCons (eL m_law_pick (aCons (eVar 0) (aCons (eLst (aCons (eC (.int 1)) (aCons (eC (.int 2)) (aCons (eC (.int 3)) aNil)))) aNil))) aNil)))) (sSeq (sAsg (.nm 1) (eL m_law_power (aCons (eVar 7) (aCons (eVar 10) (aCons (eVar 11) aNil))))) (sSeq (sAsg (.nm 2) (eLst (aCons (eL m_power (aCons (eVar 7) (aCons (eVar 10) (aCons (eVar 11) aNil)))) (aCons (eK m_power 0 3 [2, 1, 0] aNil (aCons (eVar 11) (aCons (eVar 10) (aCons (eVar 7) aNil)))) (aCons (eL m_power (aCons (eL m_power (aCons (eVar 7) (aCons (eVar 10) (aCons (eVar 11) aNil)))) (aCons (eVar 12) (aCons (eC (.int 1)) aNil)))) (aCons (eL m_power (aCons (eL m_power (aCons (eVar 7) (aCons (eC (.int 1)) (aCons (eVar 11) aNil)))) (aCons (eVar 10) (aCons (eC (.int 1)) aNil)))) (aCons (eL m_times (aCons (eL m_power (aCons (eVar 7) (aCons (eVar 10) (aCons (eC (.int 1)) aNil)))) (aCons (eL m_power (aCons (eVar 8) (aCons (eVar 10) (aCons (eC (.int 1)) aNil)))) aNil))) (aCons (eL m_power (aCons (eL m_times (aCons (eVar 7) (aCons (eVar 8) aNil))) (aCons (eVar 10) (aCons (eC (.int 1)) aNil)))) aNil)))))))) (sSeq (sAsg (.nm 4) (eL m_law_power (aCons (eL m_law_times (aCons (eVar 7) (aCons (eVar 8) aNil))) (aCons (eVar 10) (aCons (eC (.int 1)) aNil))))) (sSeq (sIf (tNotM (tTr (eL m_law_same (aCons (eVar 2) (aCons (eLst (aCons (eVar 1) (aCons (eVar 1) (aCons (eL m_law_power (aCons (eVar 7) (aCons (e2 mulI (eVar 10) (eVar 12)) (aCons (eVar 11) aNil)))) (aCons (eVar 1) (aCons (eVar 4) (aCons (eVar 4) aNil))))))) aNil))))) (sRet (eC (.bl false))) sNil) (sSeq (sPar [13, 14] (aCons (eL m_law_pick (aCons (eVar 0) (aCons (eLst (aCons (eC (.int 64)) (aCons (e1 negD (eC (.int 64))) (aCons (eC (.int 31)) (aCons (eC (.int 24)) aNil))))) aNil))) (aCons (eL m_law_pick (aCons (eVar 0) (aCons (eLst (aCons (eC (.int 64)) (aCons (eC (.int 7)) (aCons (eC (.int 24)) aNil)))) aNil))) aNil))) (sSeq (sAsg (.nm 5) (eTup (aCons (eL m_law_pick (aCons (eVar 0) (aCons (eLst (aCons (eC (.int 2)) (aCons (eC (.int 3)) aNil))) aNil))) (aCons (eC (.int 1)) (aCons (eC (.int 1)) aNil))))) (sSeq (sAsg (.nm 6) (eL m_power (aCons (eVar 5) (aCons (eVar 13) (aCons (eVar 14) aNil))))) (sRet (eL m_law_same (aCons (eLst (aCons (eVar 6) (aCons (eL m_compare (aCons (eL m_power (aCons (eVar 6) (aCons (eVar 14) (aCons (eC (.int 1)) aNil)))) (aCons (eL m_power (aCons (eVar 5) (aCons (eVar 13) (aCons (eC (.int 1)) aNil)))) aNil))) aNil))) (aCons (eLst (aCons (eL m_law_power (aCons (eVar 5) (aCons (eVar 13) (aCons (eVar 14) aNil)))) (aCons (eC (.int 0)) aNil))) aNil)))))))))))))))))
def m_law_are_products_right : GL := runB 15 b_law_are_products_right
def b_law_are_sums_right : SD := (sSeq (sAsg (.nm 1) (eLc (iRange1 (aCons (eC (.int 3)) aNil)) (.nm 8) [8] cYes (e2 addD (eL m_law_fraction (aCons (eVar 0) (aCons (eC (.int 40)) (aCons (eLst (aCons (eC (.int 1)) (aCons (eC (.int 2)) (aCons (eC (.int 3)) (aCons (eC (.int 7)) (aCons (eC (.int 12)) aNil)))))) aNil)))) (eTup (aCons (eC (.int 1)) aNil))))) (sSeq (sAsg (.tp [(.nm 5), (.nm 6), (.nm 7)]) (eVar 1)) (sSeq (sAsg (.nm 2) (e2 addD (eL m_law_add (aCons (eSl slD (eVar 5) oNone (oSome (eC (.int 2)))) (aCons (eSl slD (eVar 6) oNone (oSome (eC (.int 2)))) aNil))) (eTup (aCons (eC (.int 1)) aNil)))) (sSeq (sAsg (.nm 3) (eLst (aCons (eL m_plus (aCons (eVar 5) (aCons (eVar 6) aNil))) (aCons (eK m_plus 0 2 [1, 0] aNil (aCons (eVar 5) (aCons (eVar 6) aNil))) (aCons (eL m_plus (aCons (eL m_plus (aCons (eVar 5) (aCons (eVar 6) aNil))) (aCons (eVar 7) aNil))) (aCons (eL m_plus (aCons (eVar 5) (aCons (eL m_plus (aCons (eVar 6) (aCons (eVar 7) aNil))) aNil))) (aCons (eL m_plus (aCons (eVar 5) (aCons (eTup (aCons (e1 negD (e2 ixD (eVar 5) (eC (.int 0)))) (aCons (e2 ixD (eVar 5) (eC (.int 1))) (aCons (eC (.int 1)) aNil)))) aNil))) (aCons (eL m_times (aCons (eVar 5) (aCons (eL m_plus (aCons (eVar 6) (aCons (eVar 7) aNil))) aNil))) (aCons (eK m_times 0 2 [1, 0] aNil (aCons (eVar 6) (aCons (eVar 5) aNil))) aNil))))))))) (sSeq (sAsg (.nm 4) (e2 addD (eL m_law_add (aCons (eSl slD (eVar 2) oNone (oSome (eC (.int 2)))) (aCons (eSl slD (eVar 7) oNone (oSome (eC (.int 2)))) aNil))) (eTup (aCons (eC (.int 1)) aNil)))) (sRet (eL m_law_same (aCons (eVar 3) (aCons (eLst (aCons (eVar 2) (aCons (eVar 2) (aCons (eVar 4) (aCons (eVar 4) (aCons (eTup (aCons (eC (.int 0)) (aCons (eC (.int 1)) (aCons (eC (.int 1)) aNil)))) (aCons (e2 addD (eL m_law_mul (aCons (eSl slD (eVar 5) oNone (oSome (eC (.int 2)))) (aCons (eL m_law_add (aCons (eSl slD (eVar 6) oNone (oSome (eC (.int 2)))) (aCons (eSl slD (eVar 7) oNone (oSome (eC (.int 2)))) aNil))) aNil))) (eTup (aCons (eC (.int 1)) aNil))) (aCons (e2 addD (eL m_law_mul (aCons (eSl slD (eVar 5) oNone (oSome (eC (.int 2)))) (aCons (eSl slD (eVar 6) oNone (oSome (eC (.int 2)))) aNil))) (eTup (aCons (eC (.int 1)) aNil))) aNil)))))))) aNil)))))))))
def m_law_are_sums_right : GL := runB 9 b_law_are_sums_right
def b_law_are_refused : SD := (sSeq (sAsg (.tp [(.nm 3), (.nm 4)]) (eTup (aCons (eL m_law_pick (aCons (eVar 0) (aCons (eLst (aCons (eC .non) (aCons (eTup (aCons (eC (.int 1)) (aCons (eC (.int 2)) aNil))) (aCons (eTup (aCons (eC (.int 2)) (aCons (eC (.int 4)) (aCons (eC (.int 1)) aNil)))) (aCons (eTup (aCons (eC (.int 4)) (aCons (eC (.int 1)) (aCons (eC (.int 2)) aNil)))) (aCons (eTup (aCons (eC (.int 0)) (aCons (eC (.int 1)) (aCons (eC (.int 2)) aNil)))) (aCons (eLst (aCons (eC (.int 1)) (aCons (eC (.int 1)) (aCons (eC (.int 1)) aNil)))) (aCons (eTup (aCons (eC (.int 1)) (aCons (eC (.int 1)) (aCons (eC (.bl true)) aNil)))) aNil)))))))) aNil))) (aCons (eL m_law_pick (aCons (eVar 0) (aCons (eLst (aCons (eC .non) (aCons (eC (.int 1)) (aCons (eTup (aCons (eC (.int 9)) (aCons (eC (.int 1)) (aCons (eC (.int 2)) aNil)))) (aCons (eTup (aCons (eC (.int 1)) (aCons (eC (.int 0)) (aCons (eC (.int 1)) aNil)))) aNil))))) aNil))) aNil)))) (sSeq (sAsg (.tp [(.nm 5), (.nm 6), (.nm 7)]) (eTup (aCons (eL m_law_pick (aCons (eVar 0) (aCons (eLst (aCons (eTup (aCons (eC (.int 0)) (aCons (eC (.int 1)) (aCons (eC (.int 1)) aNil)))) (aCons (eTup (aCons (e1 negD (eC (.int 1))) (aCons (eC (.int 2)) (aCons (eC (.int 1)) aNil)))) aNil))) aNil))) (aCons (eL m_law_pick (aCons (eVar 0) (aCons (eLst (aCons (eTup (aCons (eC (.int 2)) (aCons (eC (.int 1)) (aCons (eC (.int 2)) aNil)))) (aCons (eTup (aCons (eC (.int 1)) (aCons (eC (.int 3)) (aCons (eC (.int 3)) aNil)))) aNil))) aNil))) (aCons (eTup (aCons (eC (.int 3)) (aCons (eC (.int 2)) (aCons (eC (.int 1)) aNil)))) aNil))))) (sSeq (sAsg (.tp [(.nm 8), (.nm 9)]) (eTup (aCons (eL m_law_pick (aCons (eVar 0) (aCons (eLst (aCons (eC .non) (aCons (eC (.int 65)) (aCons (e1 negD (eC (.int 65))) (aCons (eC (.bl true)) (aCons (eC (.str "1")) aNil)))))) aNil))) (aCons (eL m_law_pick (aCons (eVar 0) (aCons (eLst (aCons (eC (.int 0)) (aCons (e1 negD (eC (.int 1))) (aCons (eC (.int 65)) (aCons (eC (.bl true)) (aCons (eC .non) aNil)))))) aNil))) aNil)))) (sSeq (sAsg (.nm 1) (eOwn (aCons (eLam g_law_refused (eL m_times (aCons (eVar 3) (aCons (eVar 4) aNil)))) aNil))) (sSeq (sExpr (eM "list" appendD (eVar 1) (aCons (eLam g_law_refused (eK m_times 0 2 [1, 0] aNil (aCons (eVar 4) (aCons (eVar 5) aNil)))) aNil))) (sSeq (sExpr (eM "list" appendD (eVar 1) (aCons (eLam g_law_refused (eL m_times (aCons (eVar 5) (aCons (eVar 6) aNil)))) aNil))) (sSeq (sExpr (eM "list" appendD (eVar 1) (aCons (eLam g_law_refused (eL m_times (aCons (eVar 6) (aCons (eVar 5) aNil)))) aNil))) (sSeq (sExpr (eM "list" appendD (eVar 1) (aCons (eLam g_law_refused (eL m_plus (aCons (eVar 3) (aCons (eVar 4) aNil)))) aNil))) (sSeq (sExpr (eM "list" appendD (eVar 1) (aCons (eLam g_law_refused (eL m_plus (aCons (eVar 6) (aCons (eVar 4) aNil)))) aNil))) (sSeq (sExpr (eM "list" appendD (eVar 1) (aCons (eLam g_law_refused (eK m_plus 0 2 [1, 0] aNil (aCons (eVar 6) (aCons (eVar 7) aNil)))) aNil))) (sSeq (sExpr (eM "list" appendD (eVar 1) (aCons (eLam g_law_refused (eL m_power (aCons (eVar 3) (aCons (eVar 8) (aCons (eVar 9) aNil))))) aNil))) (sSeq (sExpr (eM "list" appendD (eVar 1) (aCons (eLam g_law_refused (eL m_power (aCons (eVar 5) (aCons (eVar 8) (aCons (eVar 9) aNil))))) aNil))) (sSeq (sExpr (eM "list" appendD (eVar 1) (aCons (eLam g_law_refused (eL m_power (aCons (eVar 7) (aCons (eVar 8) (aCons (eVar 9) aNil))))) aNil))) (sSeq (sExpr (eM "list" appendD (eVar 1) (aCons (eLam g_law_refused (eK m_power 0 3 [2, 1, 0] aNil (aCons (eVar 9) (aCons (eC (.int 1)) (aCons (eVar 7) aNil))))) aNil))) (sSeq (sAsg (.nm 2) (e2 addD (eLc (iSeq (eTup (aCons (eVar 3) (aCons (eVar 4) (aCons (eVar 5) (aCons (eVar 5) (aCons (eVar 3) (aCons (eVar 6) (aCons (eVar 6) (aCons (eVar 3) (aCons (eVar 5) aNil))))))))))) (.nm 10) [10] cYes (eTup (aCons (eC (.str "value")) (aCons (eVar 10) aNil)))) (eLst (aCons (eTup (aCons (eC (.str "many")) (aCons (eVar 8) aNil))) (aCons (eTup (aCons (eC (.str "many")) (aCons (eVar 9) aNil))) aNil))))) (sRet (eL m_law_same (aCons (eVar 1) (aCons (eVar 2) aNil)))))))))))))))))))
def m_law_are_refused : GL := runB 11 b_law_are_refused
def b_law_is_all_right : SD := (sSeq (sAsg (.nm 1) (eL m_law_deck (aCons (eVar 0) (aCons (eC (.int 21502002)) aNil)))) (sSeq (sFor (iRange1 (aCons (eC (.int 3)) aNil)) (.nm 2) (sIf (tOrM (tNotM (tTr (eL m_law_are_products_right (aCons (eVar 1) aNil)))) (tNotM (tTr (eL m_law_are_sums_right (aCons (eVar 1) aNil))))) (sRet (eC (.bl false))) sNil)) (sRet (eL m_law_are_refused (aCons (eVar 1) aNil)))))
def m_law_is_all_right : GL := runB 3 b_law_is_all_right
def b_law : SD := (noExc (sRet (eL m_law_is_all_right (aCons (eVar 0) aNil))))
def m_law : GL := runB 1 b_law
end K02
namespace H02
open PySem PySem.Spec PyProof.Rows L2
def top (i : Nat) : Stmt := PySem.Challenge.pw_everyquantity_k02_products_powers_and_su.main.body.getD i (.Pass ⟨0, 0, 0, 0⟩)
def clsBody (s : Stmt) : List Stmt := match s with
  | .ClassDef (body := b) .. => b
  | _ => []
def init (i : Nat) : Stmt := (clsBody (top i)).getD 0 (.Pass ⟨0, 0, 0, 0⟩)
abbrev d_is_whole : He.DefD := ⟨("is_whole", none), "is_whole", "is_whole", defArgs (top 7), defBody (top 7), defScope (top 7), [], []⟩
abbrev d_is_whole_between : He.DefD := ⟨("is_whole_between", none), "is_whole_between", "is_whole_between", defArgs (top 8), defBody (top 8), defScope (top 8), [], []⟩
abbrev d_is_tuple_of : He.DefD := ⟨("is_tuple_of", none), "is_tuple_of", "is_tuple_of", defArgs (top 9), defBody (top 9), defScope (top 9), [], []⟩
abbrev d_whole_power : He.DefD := ⟨("whole_power", none), "whole_power", "whole_power", defArgs (top 11), defBody (top 11), defScope (top 11), [], []⟩
abbrev d_made : He.DefD := ⟨("made", none), "made", "made", defArgs (top 12), defBody (top 12), defScope (top 12), [], []⟩
abbrev d_whole_root : He.DefD := ⟨("whole_root", none), "whole_root", "whole_root", defArgs (top 16), defBody (top 16), defScope (top 16), [], []⟩
abbrev d_is_power_to : He.DefD := ⟨("is_power_to", none), "is_power_to", "is_power_to", defArgs (top 17), defBody (top 17), defScope (top 17), [], []⟩
abbrev d_shared_degree : He.DefD := ⟨("shared_degree", none), "shared_degree", "shared_degree", defArgs (top 18), defBody (top 18), defScope (top 18), [], []⟩
abbrev d_lowest : He.DefD := ⟨("lowest", none), "lowest", "lowest", defArgs (top 19), defBody (top 19), defScope (top 19), [], []⟩
abbrev d_is_value_form : He.DefD := ⟨("is_value_form", none), "is_value_form", "is_value_form", defArgs (top 20), defBody (top 20), defScope (top 20), [], []⟩
abbrev d_is_positive_value : He.DefD := ⟨("is_positive_value", none), "is_positive_value", "is_positive_value", defArgs (top 21), defBody (top 21), defScope (top 21), [], []⟩
abbrev d_is_fraction_value : He.DefD := ⟨("is_fraction_value", none), "is_fraction_value", "is_fraction_value", defArgs (top 22), defBody (top 22), defScope (top 22), [], []⟩
abbrev d_compared : He.DefD := ⟨("compared", none), "compared", "compared", defArgs (top 23), defBody (top 23), defScope (top 23), [], []⟩
abbrev d_multiplied_roots : He.DefD := ⟨("multiplied_roots", none), "multiplied_roots", "multiplied_roots", defArgs (top 24), defBody (top 24), defScope (top 24), [], []⟩
abbrev d_powered : He.DefD := ⟨("powered", none), "powered", "powered", defArgs (top 25), defBody (top 25), defScope (top 25), [], []⟩
abbrev d_need_value : He.DefD := ⟨("need_value", none), "need_value", "need_value", defArgs (top 26), defBody (top 26), defScope (top 26), [], []⟩
abbrev d_compare : He.DefD := ⟨("compare", none), "compare", "compare", defArgs (top 27), defBody (top 27), defScope (top 27), [], []⟩
abbrev d_times : He.DefD := ⟨("times", none), "times", "times", defArgs (top 28), defBody (top 28), defScope (top 28), [], []⟩
abbrev d_power : He.DefD := ⟨("power", none), "power", "power", defArgs (top 29), defBody (top 29), defScope (top 29), [], []⟩
abbrev d_plus : He.DefD := ⟨("plus", none), "plus", "plus", defArgs (top 30), defBody (top 30), defScope (top 30), [], []⟩
abbrev d_law_deck : He.DefD := ⟨("_law_deck", none), "_law_deck", "_law_deck", defArgs (top 32), defBody (top 32), defScope (top 32), [], []⟩
abbrev d_law_draw : He.DefD := ⟨("_law_draw", none), "_law_draw", "_law_draw", defArgs (top 33), defBody (top 33), defScope (top 33), [], []⟩
abbrev d_law_pick : He.DefD := ⟨("_law_pick", none), "_law_pick", "_law_pick", defArgs (top 34), defBody (top 34), defScope (top 34), [], []⟩
abbrev d_law_same : He.DefD := ⟨("_law_same", none), "_law_same", "_law_same", defArgs (top 35), defBody (top 35), defScope (top 35), [], []⟩
abbrev d_law_gcd : He.DefD := ⟨("_law_gcd", none), "_law_gcd", "_law_gcd", defArgs (top 37), defBody (top 37), defScope (top 37), [], []⟩
abbrev d_law_low : He.DefD := ⟨("_law_low", none), "_law_low", "_law_low", defArgs (top 38), defBody (top 38), defScope (top 38), [], []⟩
abbrev d_law_fraction : He.DefD := ⟨("_law_fraction", none), "_law_fraction", "_law_fraction", defArgs (top 36), defBody (top 36), defScope (top 36), [], []⟩
abbrev d_law_add : He.DefD := ⟨("_law_add", none), "_law_add", "_law_add", defArgs (top 39), defBody (top 39), defScope (top 39), [], []⟩
abbrev d_law_mul : He.DefD := ⟨("_law_mul", none), "_law_mul", "_law_mul", defArgs (top 40), defBody (top 40), defScope (top 40), [], []⟩
abbrev d_law_pow : He.DefD := ⟨("_law_pow", none), "_law_pow", "_law_pow", defArgs (top 41), defBody (top 41), defScope (top 41), [], []⟩
abbrev d_law_int_root : He.DefD := ⟨("_law_int_root", none), "_law_int_root", "_law_int_root", defArgs (top 42), defBody (top 42), defScope (top 42), [], []⟩
abbrev d_law_value : He.DefD := ⟨("_law_value", none), "_law_value", "_law_value", defArgs (top 43), defBody (top 43), defScope (top 43), [], []⟩
abbrev d_law_multiple : He.DefD := ⟨("_law_multiple", none), "_law_multiple", "_law_multiple", defArgs (top 44), defBody (top 44), defScope (top 44), [], []⟩
abbrev d_law_times : He.DefD := ⟨("_law_times", none), "_law_times", "_law_times", defArgs (top 45), defBody (top 45), defScope (top 45), [], []⟩
abbrev d_law_power : He.DefD := ⟨("_law_power", none), "_law_power", "_law_power", defArgs (top 46), defBody (top 46), defScope (top 46), [], []⟩
abbrev d_law_refused : He.DefD := ⟨("_law_refused", none), "_law_refused", "_law_refused", defArgs (top 47), defBody (top 47), defScope (top 47), [], []⟩
abbrev d_law_positive : He.DefD := ⟨("_law_positive", none), "_law_positive", "_law_positive", defArgs (top 48), defBody (top 48), defScope (top 48), [], []⟩
abbrev d_law_are_products_right : He.DefD := ⟨("_law_are_products_right", none), "_law_are_products_right", "_law_are_products_right", defArgs (top 49), defBody (top 49), defScope (top 49), [], []⟩
abbrev d_law_are_sums_right : He.DefD := ⟨("_law_are_sums_right", none), "_law_are_sums_right", "_law_are_sums_right", defArgs (top 50), defBody (top 50), defScope (top 50), [], []⟩
abbrev d_law_are_refused : He.DefD := ⟨("_law_are_refused", none), "_law_are_refused", "_law_are_refused", defArgs (top 51), defBody (top 51), defScope (top 51), [], []⟩
abbrev d_law_is_all_right : He.DefD := ⟨("_law_is_all_right", none), "_law_is_all_right", "_law_is_all_right", defArgs (top 52), defBody (top 52), defScope (top 52), [], []⟩
abbrev d_law : He.DefD := ⟨("law", none), "law", "law", defArgs (top 53), defBody (top 53), defScope (top 53), [], []⟩
abbrev d_BadValue : He.DefD := ⟨("BadValue", some "__init__"), "__init__", "BadValue.__init__", defArgs (init 3), defBody (init 3), defScope (init 3), [], []⟩
abbrev d_BadMany : He.DefD := ⟨("BadMany", some "__init__"), "__init__", "BadMany.__init__", defArgs (init 4), defBody (init 4), defScope (init 4), [], []⟩
def fn : List He.DefD := [d_is_whole, d_is_whole_between, d_is_tuple_of, d_whole_power, d_made, d_whole_root, d_is_power_to, d_shared_degree, d_lowest, d_is_value_form, d_is_positive_value, d_is_fraction_value, d_compared, d_multiplied_roots, d_powered, d_need_value, d_compare, d_times, d_power, d_plus, d_law_deck, d_law_draw, d_law_pick, d_law_same, d_law_gcd, d_law_low, d_law_fraction, d_law_add, d_law_mul, d_law_pow, d_law_int_root, d_law_value, d_law_multiple, d_law_times, d_law_power, d_law_refused, d_law_positive, d_law_are_products_right, d_law_are_sums_right, d_law_are_refused, d_law_is_all_right, d_law, d_BadValue, d_BadMany]
def fa : List He.Fa := [.glo "is_whole", .glo "is_whole_between", .glo "is_tuple_of", .glo "whole_power", .glo "made", .glo "whole_root", .glo "is_power_to", .glo "shared_degree", .glo "lowest", .glo "is_value_form", .glo "is_positive_value", .glo "is_fraction_value", .glo "compared", .glo "multiplied_roots", .glo "powered", .glo "need_value", .glo "compare", .glo "times", .glo "power", .glo "plus", .glo "_law_deck", .glo "_law_draw", .glo "_law_pick", .glo "_law_same", .glo "_law_gcd", .glo "_law_low", .glo "_law_fraction", .glo "_law_add", .glo "_law_mul", .glo "_law_pow", .glo "_law_int_root", .glo "_law_value", .glo "_law_multiple", .glo "_law_times", .glo "_law_power", .glo "_law_refused", .glo "_law_positive", .glo "_law_are_products_right", .glo "_law_are_sums_right", .glo "_law_are_refused", .glo "_law_is_all_right", .glo "law", .glo "QuantityError", .glo "BadValue", .glo "BadMany", .free "abs", .free "all", .free "bool", .free "int", .free "isinstance", .free "len", .free "list", .free "max", .free "min", .free "range", .free "repr", .free "tuple", .int "MOST_BITS" 20000, .int "VALUE_PARTS" 3, .int "MOST_POWER" 64]
def ex : List (PySem.W.Frag → Bool) := [DL.xbB "BadValue" "__init__", DL.xbB "BadMany" "__init__", DL.gloB "gcd" "math.gcd", DL.gloB "lcm" "math.lcm", DL.exmB "BadValue" "QuantityError" true, DL.exmB "BadMany" "QuantityError" true, DL.kitEB "BadValue", DL.kitB "BadValue" "BadMany" false, DL.kitB "BadValue" "BadValue" true, DL.kitEB "BadMany", DL.kitB "BadMany" "BadMany" true, DL.kitB "BadMany" "BadValue" false]
def tb : List Str := ["_law_are_refused"]
abbrev R : PySem.W.OpenRow := PySem.W.OpenLaw.row PySem.Challenge.rw_everyquantity_k02_products_powers_and_su
abbrev hk : PySem.W.Hook := DL.hookX 5 fa fn ex tb
def ob (s : PySem.W.SharedT) : DL.AlX := DL.obsXG 5 fa fn ex tb (HandSHeadRun.getT s)
theorem ob_eq (s : PySem.W.SharedT) : ob s = hk.obs s.abs := DL.obsXG_eq (HandSHeadRun.getT_eq s)
def loose : List Str := (["gcd", "lcm", "QuantityError", "BadValue", "BadMany", "MOST_BITS", "is_whole", "is_whole_between", "is_tuple_of", "whole_power", "made", "VALUE_PARTS", "MOST_POWER", "whole_root", "is_power_to", "shared_degree", "lowest", "is_value_form", "is_positive_value", "is_fraction_value", "compared", "multiplied_roots", "powered", "need_value", "compare", "times", "power", "plus", "_law_deck", "_law_draw"] : List Str) ++ (["_law_pick", "_law_same", "_law_fraction", "_law_gcd", "_law_low", "_law_add", "_law_mul", "_law_pow", "_law_int_root", "_law_value", "_law_multiple", "_law_times", "_law_power", "_law_refused", "_law_positive", "_law_are_products_right", "_law_are_sums_right", "_law_are_refused", "_law_is_all_right"] : List Str)
theorem run (w : World) : HandSHeadRun.RunEqI R (PySem.W.view R.prog [53]) hk ob 4000 loose w := by
  unfold HandSHeadRun.RunEqI
  kernel_rfl
end H02
namespace K02
open PySem PySem.Spec DL NT
theorem ev_whole_power (a n s : Nat) (M : Mem) (ha : a ≤ 2 ^ s) (hb : 2 * (s * n) < 1000000) (hn : n < 100000) : m_whole_power [.int (a : Int), .int (n : Int)] M = .ok (.int ((a ^ n : Nat) : Int)) M := by
  have key : ∀ (R : SR → Prop), (∀ x : Nat, R (.nx [some (.int (x : Int)), some (.int 0), some (.int ((a ^ n : Nat) : Int))] M)) →
      R (sWhile 100000 (tB (e2 gtD (eVar 1) (eC (.int 0)))) (sSeq (sIf (tB (e2 eqD (e2 modD (eVar 1) (eC (.int 2))) (eC (.int 1)))) (sAsg (.nm 2) (e2 mulI (eVar 2) (eVar 0))) sNil) (sPar [0, 1] (aCons (e2 mulI (eVar 0) (eVar 0)) (aCons (e2 divD (eVar 1) (eC (.int 2))) aNil)))) [some (.int (a : Int)), some (.int (n : Int)), some (.int 1)] M) := by
    intro R hR
    refine while_rule (fun m ρ M' => M' = M ∧ ∃ x f w e : Nat, ρ = [some (.int (x : Int)), some (.int (m : Int)), some (.int (f : Int))] ∧ f * x ^ m = a ^ n ∧ x ≤ 2 ^ (s * w) ∧ f ≤ 2 ^ (s * e) ∧ w * m + e ≤ n ∧ 1 ≤ w) R ?_ 100000 n _ M hn ⟨rfl, a, 1, 1, 0, rfl, by simp, by simpa using ha, by simp, by omega, by omega⟩
    rintro m ρ M' ⟨rfl, x, f, w, e, rfl, hv, hx, hf, hw, hw1⟩
    by_cases hm : m = 0
    · subst hm
      refine .inl ⟨by simp [tB, e2, eVar, eC, Res.bind, gt_ii], ?_⟩
      have e1 : f = a ^ n := by simpa using hv
      rw [e1]
      exact hR x
    · have hm0 : (0 : Int) < (m : Int) := by omega
      have hm1 : 0 < m := by omega
      have lx := log_le hx
      have lf := log_le hf
      have hsw : s * w ≤ s * n := Nat.mul_le_mul_left s (Nat.le_trans (Nat.le_mul_of_pos_right w (by omega)) (by omega : w * m ≤ n))
      have hse : s * e ≤ s * n := Nat.mul_le_mul_left s (by omega)
      have d2 := mod_nn (a := m) (b := 2) M' (by omega)
      have q2 := div_nn (a := m) (b := 2) M' (by omega) (by decide)
      have xx := mul_nn (a := x) (b := x) M' (by omega)
      have fx := mul_nn (a := f) (b := x) M' (by omega)
      have d2' : modD (.int (m : Int)) (.int 2) M' = _ := d2
      have q2' : divD (.int (m : Int)) (.int 2) M' = _ := q2
      have hdm := Nat.div_add_mod m 2
      refine .inr ⟨by simp [tB, e2, eVar, eC, Res.bind, gt_ii, hm1], .inl ?_⟩
      by_cases h1 : m % 2 = 1
      · refine ⟨m / 2, [some (.int ((x * x : Nat) : Int)), some (.int ((m / 2 : Nat) : Int)), some (.int ((f * x : Nat) : Int))], M', by omega, ?_, rfl, x * x, f * x, 2 * w, w + e, rfl, ?_, ?_, ?_, ?_, by omega⟩
        · simp [sSeq, sIf, sAsg, sPar, sNil, liftR, tB, e2, eVar, eC, Res.bind, aCons, aNil, asgR, asgL, Pat.asg, d2', q2', xx, fx, eq_ii, h1]
        · rw [← hv]
          conv => rhs; rw [← hdm, h1, Nat.pow_add, Nat.pow_mul, Nat.pow_two, Nat.pow_one]
          rw [Nat.mul_assoc, Nat.mul_comm x]
        · rw [show s * (2 * w) = s * w + s * w by rw [Nat.mul_left_comm, Nat.two_mul], Nat.pow_add]
          exact Nat.mul_le_mul hx hx
        · rw [show s * (w + e) = s * e + s * w by rw [Nat.mul_add, Nat.add_comm], Nat.pow_add]
          exact Nat.mul_le_mul hf hx
        · have : 2 * w * (m / 2) + w = w * m := by
            conv => rhs; rw [← hdm, h1, Nat.mul_add, Nat.mul_one, ← Nat.mul_assoc, Nat.mul_comm w 2]
          omega
      · have h0 : m % 2 = 0 := by omega
        refine ⟨m / 2, [some (.int ((x * x : Nat) : Int)), some (.int ((m / 2 : Nat) : Int)), some (.int (f : Int))], M', by omega, ?_, rfl, x * x, f, 2 * w, e, rfl, ?_, ?_, hf, ?_, by omega⟩
        · simp [sSeq, sIf, sAsg, sPar, sNil, liftR, tB, e2, eVar, eC, Res.bind, aCons, aNil, asgR, asgL, Pat.asg, d2', q2', xx, fx, eq_ii, h0]
        · rw [← hv]
          conv => rhs; rw [← hdm, h0, Nat.add_zero, Nat.pow_mul, Nat.pow_two]
        · rw [show s * (2 * w) = s * w + s * w by rw [Nat.mul_left_comm, Nat.two_mul], Nat.pow_add]
          exact Nat.mul_le_mul hx hx
        · have : 2 * w * (m / 2) = w * m := by
            conv => rhs; rw [← hdm, h0, Nat.add_zero, ← Nat.mul_assoc, Nat.mul_comm w 2]
          omega
  unfold m_whole_power runB b_whole_power
  simp only [sSeq, sAsg, eC, liftR, Pat.asg, asgR, List.map, List.length, List.replicate, List.set, List.append, HAppend.hAppend, Append.append]
  refine key (fun r => (match (match r with | .nx ρ' M' => sRet (eVar 2) ρ' M' | r => r) with | .rt d M' => Res.ok d M' | .nx _ M' => .ok .non M' | .exc e _ M' => .exc e M' | _ => .bad) = .ok (.int ((a ^ n : Nat) : Int)) M) fun x => ?_
  simp [sRet, eVar, liftR]
theorem bits_nn (n : Nat) : Builtin.Int.intBits (n : Int) = if n = 0 then 0 else n.log2 + 1 := by
  unfold Builtin.Int.intBits
  by_cases h : n = 0
  · subst h
    rfl
  · rw [if_neg h, if_neg (by simpa using h)]
    rfl
theorem lt_bits (n : Nat) : n < 2 ^ Builtin.Int.intBits (n : Int) := by
  rw [bits_nn]
  by_cases h : n = 0
  · subst h
    decide
  · rw [if_neg h]
    exact Nat.lt_log2_self
theorem bits_le {n k : Nat} (h : n < 2 ^ k) : Builtin.Int.intBits (n : Int) ≤ k := by
  rw [bits_nn]
  by_cases h0 : n = 0
  · rw [if_pos h0]
    exact Nat.zero_le _
  · rw [if_neg h0]
    exact (Nat.log2_lt h0).mpr h
theorem ev_whole_root (n p : Nat) (M : Mem) (hp : 0 < p) (hp2 : p < 100000) (hn : Builtin.Int.intBits (n : Int) ≤ 100000) : ∃ r : Nat, m_whole_root [.int (n : Int), .int (p : Int)] M = .ok (.int (r : Int)) M ∧ r ^ p ≤ n ∧ n < (r + 1) ^ p := by
  by_cases h2 : n < 2
  · refine ⟨n, ?_, ?_, ?_⟩
    · have hi : (n : Int) < 2 := by omega
      unfold m_whole_root runB b_whole_root
      simp [sSeq, sIf, sRet, liftR, tOrM, tB, e2, eVar, eC, Res.bind, lt_ii, hi]
    · rcases (by omega : n = 0 ∨ n = 1) with rfl | rfl
      · rw [Nat.zero_pow hp]; exact Nat.le_refl 0
      · rw [Nat.one_pow]; exact Nat.le_refl 1
    · rcases (by omega : n = 0 ∨ n = 1) with rfl | rfl
      · rw [Nat.zero_add, Nat.one_pow]; decide
      · exact Nat.one_lt_two_pow (by omega)
  by_cases h1 : p = 1
  · subst h1
    refine ⟨n, ?_, by simp, by simp⟩
    have hi : ¬ (n : Int) < 2 := by omega
    unfold m_whole_root runB b_whole_root
    simp [sSeq, sIf, sRet, liftR, tOrM, tB, e2, eVar, eC, Res.bind, lt_ii, hi, eq_ii]
  · generalize hB : Builtin.Int.intBits (n : Int) = B
    have hB1 : n < 2 ^ B := by rw [← hB]; exact lt_bits n
    have hB2 : B ≤ 100000 := by rw [← hB]; exact hn
    let h := B / p + 1
    have hBp : B < h * p := by
      have := Nat.lt_div_mul_add (a := B) hp
      show B < (B / p + 1) * p
      rw [Nat.add_mul, Nat.one_mul]
      exact this
    have hh : h * p ≤ 200000 := by
      have : B / p * p ≤ B := Nat.div_mul_le_self B p
      show (B / p + 1) * p ≤ _
      rw [Nat.add_mul, Nat.one_mul]
      omega
    have hh2 : h < 100000 := by
      have : B / p ≤ B / 2 := Nat.div_le_div_left (by omega) (by decide)
      show B / p + 1 < _
      omega
    have hhigh : n < (2 ^ h) ^ p := by
      rw [← Nat.pow_mul]
      exact Nat.lt_of_lt_of_le hB1 (Nat.pow_le_pow_right (by decide) (Nat.le_of_lt hBp))
    have key : ∀ (R : SR → Prop), (∀ (r : Nat) (x y : Option D), r ^ p ≤ n → n < (r + 1) ^ p → R (.nx [some (.int (n : Int)), some (.int (p : Int)), some (.int (r : Int)), x, y] M)) → ∀ (F : Nat) (lo hi m : Nat) (z : Option D), m < F → lo ^ p ≤ n → n < hi ^ p → hi ≤ 2 ^ h → lo < hi → hi - lo ≤ 2 ^ m →
        R (sWhile F (tB (e2 gtD (e2 subD (eVar 3) (eVar 2)) (eC (.int 1)))) (sSeq (sAsg (.nm 4) (e2 divD (e2 addD (eVar 2) (eVar 3)) (eC (.int 2)))) (sIf (tB (e2 leD (eL m_whole_power (aCons (eVar 4) (aCons (eVar 1) aNil))) (eVar 0))) (sAsg (.nm 2) (eVar 4)) (sAsg (.nm 3) (eVar 4)))) [some (.int (n : Int)), some (.int (p : Int)), some (.int (lo : Int)), some (.int (hi : Int)), z] M) := by
      intro R hR F lo hi m z hF k1 k2 k3 k4 k5
      refine while_rule (fun m ρ M' => M' = M ∧ ∃ (lo hi : Nat) (z : Option D), ρ = [some (.int (n : Int)), some (.int (p : Int)), some (.int (lo : Int)), some (.int (hi : Int)), z] ∧ lo ^ p ≤ n ∧ n < hi ^ p ∧ hi ≤ 2 ^ h ∧ lo < hi ∧ hi - lo ≤ 2 ^ m) R ?_ F m _ M hF ⟨rfl, lo, hi, z, rfl, k1, k2, k3, k4, k5⟩
      rintro m ρ M' ⟨rfl, lo, hi, z, rfl, k1, k2, k3, k4, k5⟩
      by_cases hd : hi - lo ≤ 1
      · have hi1 : ¬ (1 : Int) < (hi : Int) - (lo : Int) := by omega
        refine .inl ⟨by simp [tB, e2, eVar, eC, Res.bind, gt_ii, sub_ii, hi1], ?_⟩
        exact hR lo _ _ k1 (by rw [show lo + 1 = hi by omega]; exact k2)
      · have hi1 : (1 : Int) < (hi : Int) - (lo : Int) := by omega
        refine .inr ⟨by simp [tB, e2, eVar, eC, Res.bind, gt_ii, sub_ii, hi1], .inl ?_⟩
        have hm : m ≠ 0 := fun e => by
          subst e
          simp at k5
          omega
        obtain ⟨j, rfl⟩ := Nat.exists_eq_succ_of_ne_zero hm
        have e2j : 2 ^ (j + 1) = 2 ^ j + 2 ^ j := by rw [Nat.pow_succ]; omega
        have hmid : (lo + hi) / 2 ≤ 2 ^ h := by omega
        have wp := ev_whole_power ((lo + hi) / 2) p h M' hmid (by omega) hp2
        have dd := div_nn (a := lo + hi) (b := 2) M' (by omega) (by decide)
        have dd' : divD (.int ((lo : Int) + (hi : Int))) (.int 2) M' = .ok (.int (((lo + hi) / 2 : Nat) : Int)) M' := by
          rw [← Int.natCast_add]
          exact dd
        by_cases hle : ((lo + hi) / 2) ^ p ≤ n
        · have hle' : ((((lo + hi) / 2) ^ p : Nat) : Int) ≤ (n : Int) := by omega
          refine ⟨j, [some (.int (n : Int)), some (.int (p : Int)), some (.int (((lo + hi) / 2 : Nat) : Int)), some (.int (hi : Int)), some (.int (((lo + hi) / 2 : Nat) : Int))], M', by omega, ?_, rfl, _, _, _, rfl, hle, k2, k3, by omega, ?_⟩
          · simp only [sSeq, sAsg, sIf, liftR, tB, e2, eVar, eC, eL, aCons, aNil, Res.bind, asgR, Pat.asg, List.getElem?_cons_succ, List.getElem?_cons_zero, add_ii, dd', List.set, wp, le_ii, hle', decide_true, if_true]
          · omega
        · have hle' : ¬ ((((lo + hi) / 2) ^ p : Nat) : Int) ≤ (n : Int) := by omega
          refine ⟨j, [some (.int (n : Int)), some (.int (p : Int)), some (.int (lo : Int)), some (.int (((lo + hi) / 2 : Nat) : Int)), some (.int (((lo + hi) / 2 : Nat) : Int))], M', by omega, ?_, rfl, _, _, _, rfl, k1, by omega, by omega, by omega, ?_⟩
          · simp only [sSeq, sAsg, sIf, liftR, tB, e2, eVar, eC, eL, aCons, aNil, Res.bind, asgR, Pat.asg, List.getElem?_cons_succ, List.getElem?_cons_zero, add_ii, dd', List.set, wp, le_ii, hle', decide_false, if_false, Bool.false_eq_true]
          · omega
    have wp2 := ev_whole_power 2 h 1 M (by decide) (by omega) hh2
    have dB := div_nn (a := B) (b := p) M hp (by
      have : p.log2 < 17 := (Nat.log2_lt (by omega)).mpr (by omega)
      omega)
    have hi2 : ¬ (n : Int) < 2 := by omega
    have hp1 : ¬ (p : Int) = 1 := by omega
    have fin := key (fun r => ∃ v : Nat, (match (match r with | .nx ρ' M' => sRet (eVar 2) ρ' M' | r => r) with | .rt d M' => Res.ok d M' | .nx _ M' => .ok .non M' | .exc e _ M' => .exc e M' | _ => .bad) = .ok (.int (v : Int)) M ∧ v ^ p ≤ n ∧ n < (v + 1) ^ p) (fun r x y q1 q2 => ⟨r, by simp [sRet, eVar, liftR], q1, q2⟩) 100000 1 (2 ^ h) h none hh2 (by rw [Nat.one_pow]; omega) hhigh (Nat.le_refl _) (Nat.one_lt_two_pow (Nat.succ_ne_zero _)) (Nat.sub_le _ _)
    obtain ⟨v, q, q1, q2⟩ := fin
    refine ⟨v, ?_, q1, q2⟩
    rw [← q]
    have wp2' : m_whole_power [.int 2, .int (((B / p : Nat) : Int) + 1)] M = .ok (.int ((2 ^ h : Nat) : Int)) M := wp2
    unfold m_whole_root runB b_whole_root
    simp only [runB, sSeq, sIf, sNil, sPass, sCont, sPar, sAsg, sRet, sExpr, liftR, tAndM, tOrM, tNotM, tB, tTr, truD, e2, e1, eChain, eVar, eC, eL, eIf, eAnd, eOr, eNot, eTup, eLst, eBits, aCons, aNil, Res.bind, asgR, asgL, Pat.asg, List.map_cons, List.map_nil, List.set, Option.bind, Option.bind_some, List.getElem?_cons_succ, List.getElem?_cons_zero, List.length_cons, List.length_nil, List.replicate_succ, List.replicate_zero, List.cons_append, List.nil_append, Nat.reduceAdd, Nat.reduceSub, Nat.reduceLeDiff, Nat.zero_add, decide_true, decide_false, if_true, if_false, Bool.false_eq_true, Bool.not_true, Bool.not_false, eq_ii, ne_ii, lt_ii, gt_ii, le_ii, ge_ii, add_ii, sub_ii, hi2, hp1, hB, dB, wp2']
    rfl
theorem ev_is_power_to (n p : Nat) (M : Mem) (hp : 0 < p) (hp2 : p < 100000) (hn : Builtin.Int.intBits (n : Int) ≤ 100000) : ∃ b : Bool, m_is_power_to [.int (n : Int), .int (p : Int)] M = .ok (.bl b) M ∧ (b = true ↔ Pw p n) := by
  obtain ⟨r, e, h1, h2⟩ := ev_whole_root n p M hp hp2 hn
  refine ⟨decide (((r ^ p : Nat) : Int) = (n : Int)), ?_, ?_⟩
  · generalize hB : Builtin.Int.intBits (n : Int) = B at hn
    have hnB : n < 2 ^ B := by rw [← hB]; exact lt_bits n
    have hsz : B < (B / p + 1) * p ∧ (B / p + 1) * p ≤ B + p := by
      have k1 := Nat.lt_div_mul_add (a := B) hp
      have k2 := Nat.div_mul_le_self B p
      rw [Nat.add_mul, Nat.one_mul]
      exact ⟨k1, by omega⟩
    have hs : r ≤ 2 ^ (B / p + 1) := by
      rcases Nat.lt_or_ge (2 ^ (B / p + 1)) r with q | q
      · exfalso
        have k := Nat.pow_lt_pow_left q (show p ≠ 0 by omega)
        rw [← Nat.pow_mul] at k
        have k2 : 2 ^ B ≤ 2 ^ ((B / p + 1) * p) := Nat.pow_le_pow_right (by decide) (Nat.le_of_lt hsz.1)
        exact absurd (Nat.lt_of_le_of_lt k2 (Nat.lt_of_lt_of_le k h1)) (Nat.not_lt.mpr (Nat.le_of_lt hnB))
      · exact q
    have wp := ev_whole_power r p (B / p + 1) M hs (by omega) hp2
    unfold m_is_power_to runB b_is_power_to
    simp [sRet, liftR, e2, eVar, eL, aCons, aNil, Res.bind, e, wp, eq_ii]
  · rw [root_pw (by omega) h1 h2]
    exact ⟨fun h => Int.ofNat_inj.mp (of_decide_eq_true h), fun h => decide_eq_true (Int.ofNat_inj.mpr h)⟩
end K02
namespace K02
open PySem PySem.Spec DL NT
/-- what shared_degree answers -/
def SDeg (n d k r : Nat) : Prop := 1 ≤ r ∧ (2 ≤ r → r ∣ k ∧ Pw r n ∧ Pw r d) ∧ (r = 1 → Red n d k)
theorem SDeg.one_iff {n d k r : Nat} (h : SDeg n d k r) : r = 1 ↔ Red n d k := by
  refine ⟨h.2.2, fun hr => ?_⟩
  by_cases q : 2 ≤ r
  · obtain ⟨h1, h2, h3⟩ := h.2.1 q
    exact (hr r q h1 h2 h3).elim
  · have := h.1
    omega
theorem cop_of {p q L : Nat} (hp : 2 ≤ p) (hL : p ∣ L) (small : ∀ g, 2 ≤ g → g < p → ¬ g ∣ L) (hq : ¬ p ∣ q) : Nat.Coprime q p := by
  have h1 : Nat.gcd q p ∣ p := Nat.gcd_dvd_right q p
  have hpos : 0 < Nat.gcd q p := Nat.gcd_pos_of_pos_right _ (by omega)
  have hle := Nat.le_of_dvd (by omega) h1
  by_cases e : Nat.gcd q p = p
  · exact absurd (by rw [← e]; exact Nat.gcd_dvd_left q p) hq
  · by_cases e2 : 2 ≤ Nat.gcd q p
    · exact absurd (Nat.dvd_trans h1 hL) (small _ e2 (by omega))
    · show Nat.gcd q p = 1
      omega
theorem pw_mul {p t n : Nat} (h : Pw (p * t) n) : Pw p n := by
  obtain ⟨a, rfl⟩ := h
  exact ⟨a ^ t, by rw [← Nat.pow_mul, Nat.mul_comm]⟩
section
variable {a b c e : Option D}
/-- the inner loop: the part is stripped -/
theorem run_strip (R : SR → Prop) (L p : Nat) (M : Mem) (hL : 0 < L) (hp : 2 ≤ p) (hp2 : p < 100000) (hL2 : L < 100000)
    (hR : ∀ L' : Nat, 0 < L' → L' ∣ L → ¬ p ∣ L' → (∀ q, Nat.Coprime q p → q ∣ L → q ∣ L') → R (.nx [a, b, c, some (.int (L' : Int)), some (.int (p : Int)), e] M)) :
    R (sWhile 100000 (tB (e2 eqD (e2 modD (eVar 3) (eVar 4)) (eC (.int 0)))) (sAsg (.nm 3) (e2 divD (eVar 3) (eVar 4))) [a, b, c, some (.int (L : Int)), some (.int (p : Int)), e] M) := by
  refine while_rule (fun m ρ M' => M' = M ∧ m = m ∧ 0 < m ∧ ρ = [a, b, c, some (.int (m : Int)), some (.int (p : Int)), e] ∧ m ∣ L ∧ (∀ q, Nat.Coprime q p → q ∣ L → q ∣ m)) R ?_ 100000 L _ M hL2 ⟨rfl, rfl, hL, rfl, Nat.dvd_refl L, fun q _ h => h⟩
  rintro m ρ M' ⟨rfl, _, hm, rfl, hd, hq⟩
  have md := mod_nn (a := m) (b := p) M' (by omega)
  by_cases h0 : m % p = 0
  · have h0' : ((m % p : Nat) : Int) = 0 := by omega
    have dv := div_nn (a := m) (b := p) M' (by omega) (by
      have : p.log2 < 17 := (Nat.log2_lt (by omega)).mpr (by omega)
      omega)
    have hpm : p ∣ m := Nat.dvd_of_mod_eq_zero h0
    refine .inr ⟨by simp only [runB, sSeq, sIf, sNil, sPass, sCont, sPar, sAsg, sRet, sExpr, liftR, tAndM, tOrM, tNotM, tB, tTr, truD, e2, e1, eChain, eVar, eC, eL, eIf, eAnd, eOr, eNot, eTup, eLst, eBits, aCons, aNil, Res.bind, asgR, asgL, Pat.asg, List.map_cons, List.map_nil, List.set, Option.bind, Option.bind_some, List.getElem?_cons_succ, List.getElem?_cons_zero, List.length_cons, List.length_nil, List.replicate_succ, List.replicate_zero, List.cons_append, List.nil_append, Nat.reduceAdd, Nat.reduceSub, Nat.reduceLeDiff, Nat.zero_add, decide_true, decide_false, if_true, if_false, Bool.false_eq_true, Bool.not_true, Bool.not_false, eq_ii, ne_ii, lt_ii, gt_ii, le_ii, ge_ii, add_ii, sub_ii, md, h0'], .inl ⟨m / p, [a, b, c, some (.int ((m / p : Nat) : Int)), some (.int (p : Int)), e], M', Nat.div_lt_self hm hp, by simp only [runB, sSeq, sIf, sNil, sPass, sCont, sPar, sAsg, sRet, sExpr, liftR, tAndM, tOrM, tNotM, tB, tTr, truD, e2, e1, eChain, eVar, eC, eL, eIf, eAnd, eOr, eNot, eTup, eLst, eBits, aCons, aNil, Res.bind, asgR, asgL, Pat.asg, List.map_cons, List.map_nil, List.set, Option.bind, Option.bind_some, List.getElem?_cons_succ, List.getElem?_cons_zero, List.length_cons, List.length_nil, List.replicate_succ, List.replicate_zero, List.cons_append, List.nil_append, Nat.reduceAdd, Nat.reduceSub, Nat.reduceLeDiff, Nat.zero_add, decide_true, decide_false, if_true, if_false, Bool.false_eq_true, Bool.not_true, Bool.not_false, eq_ii, ne_ii, lt_ii, gt_ii, le_ii, ge_ii, add_ii, sub_ii, dv, asgR], rfl, rfl, Nat.div_pos (Nat.le_of_dvd hm hpm) (by omega), rfl, Nat.dvd_trans (Nat.div_dvd_of_dvd hpm) hd, fun q c1 c2 => ?_⟩⟩
    have := hq q c1 c2
    obtain ⟨t, rfl⟩ := hpm
    rw [Nat.mul_div_cancel_left _ (by omega)]
    exact c1.dvd_of_dvd_mul_left this
  · have h0' : ¬ ((m % p : Nat) : Int) = 0 := by omega
    exact .inl ⟨by simp only [runB, sSeq, sIf, sNil, sPass, sCont, sPar, sAsg, sRet, sExpr, liftR, tAndM, tOrM, tNotM, tB, tTr, truD, e2, e1, eChain, eVar, eC, eL, eIf, eAnd, eOr, eNot, eTup, eLst, eBits, aCons, aNil, Res.bind, asgR, asgL, Pat.asg, List.map_cons, List.map_nil, List.set, Option.bind, Option.bind_some, List.getElem?_cons_succ, List.getElem?_cons_zero, List.length_cons, List.length_nil, List.replicate_succ, List.replicate_zero, List.cons_append, List.nil_append, Nat.reduceAdd, Nat.reduceSub, Nat.reduceLeDiff, Nat.zero_add, decide_true, decide_false, if_true, if_false, Bool.false_eq_true, Bool.not_true, Bool.not_false, eq_ii, ne_ii, lt_ii, gt_ii, le_ii, ge_ii, add_ii, sub_ii, md, h0'], hR m hm hd (fun z => h0 (Nat.mod_eq_zero_of_dvd z)) hq⟩
end
theorem dec_true {p : Prop} [Decidable p] (h : p) : decide p = true := decide_eq_true h
theorem max_nn (a b : Nat) (M : Mem) : maxD [.int (a : Int), .int (b : Int)] M = .ok (.int ((max a b : Nat) : Int)) M := by
  show (if true = true then Res.ok (D.int (if (b : Int) > (a : Int) then (b : Int) else (a : Int))) M else .bad) = _
  rw [if_pos rfl]
  by_cases h : a < b
  · rw [if_pos (by omega), show max a b = b by omega]
  · rw [if_neg (by omega), show max a b = a by omega]
theorem ev_shared_degree (n d k : Nat) (M : Mem) (hn : 0 < n) (hd : 0 < d) (hk : 0 < k) (hk2 : k < 100000) (bn : Builtin.Int.intBits (n : Int) ≤ 50000) (bd : Builtin.Int.intBits (d : Int) ≤ 50000) :
    ∃ r : Nat, m_shared_degree [.int (n : Int), .int (d : Int), .int (k : Int)] M = .ok (.int (r : Int)) M ∧ SDeg n d k r := by
  by_cases h11 : n = 1 ∧ d = 1
  · obtain ⟨rfl, rfl⟩ := h11
    refine ⟨k, ?_, hk, fun _ => ⟨Nat.dvd_refl k, ⟨1, Nat.one_pow k⟩, ⟨1, Nat.one_pow k⟩⟩, fun e => by rw [e]; exact red_one⟩
    unfold m_shared_degree b_shared_degree
    have e1 : (((1 : Nat) : Int) = 1) := rfl
    simp only [runB, sSeq, sIf, sNil, sPass, sCont, sPar, sAsg, sRet, sExpr, liftR, tAndM, tOrM, tNotM, tB, tTr, truD, e2, e1, eChain, eVar, eC, eL, eIf, eAnd, eOr, eNot, eTup, eLst, eBits, aCons, aNil, Res.bind, asgR, asgL, Pat.asg, List.map_cons, List.map_nil, List.set, Option.bind, Option.bind_some, List.getElem?_cons_succ, List.getElem?_cons_zero, List.length_cons, List.length_nil, List.replicate_succ, List.replicate_zero, List.cons_append, List.nil_append, Nat.reduceAdd, Nat.reduceSub, Nat.reduceLeDiff, Nat.zero_add, decide_true, decide_false, if_true, if_false, Bool.false_eq_true, Bool.not_true, Bool.not_false, eq_ii, ne_ii, lt_ii, gt_ii, le_ii, ge_ii, add_ii, sub_ii, e1]
  · have c1 : tAndM (tB (e2 eqD (eVar 0) (eC (.int 1)))) (tB (e2 eqD (eVar 1) (eC (.int 1)))) [some (.int (n : Int)), some (.int (d : Int)), some (.int (k : Int)), none, none, none] M = .ok false M := by
      by_cases h1 : n = 1
      · have h2 : ¬ (d : Int) = 1 := fun z => h11 ⟨h1, by omega⟩
        have h1' : (n : Int) = 1 := by omega
        simp only [runB, sSeq, sIf, sNil, sPass, sCont, sPar, sAsg, sRet, sExpr, liftR, tAndM, tOrM, tNotM, tB, tTr, truD, e2, e1, eChain, eVar, eC, eL, eIf, eAnd, eOr, eNot, eTup, eLst, eBits, aCons, aNil, Res.bind, asgR, asgL, Pat.asg, List.map_cons, List.map_nil, List.set, Option.bind, Option.bind_some, List.getElem?_cons_succ, List.getElem?_cons_zero, List.length_cons, List.length_nil, List.replicate_succ, List.replicate_zero, List.cons_append, List.nil_append, Nat.reduceAdd, Nat.reduceSub, Nat.reduceLeDiff, Nat.zero_add, decide_true, decide_false, if_true, if_false, Bool.false_eq_true, Bool.not_true, Bool.not_false, eq_ii, ne_ii, lt_ii, gt_ii, le_ii, ge_ii, add_ii, sub_ii, h1', h2]
      · have h1' : ¬ (n : Int) = 1 := by omega
        simp only [runB, sSeq, sIf, sNil, sPass, sCont, sPar, sAsg, sRet, sExpr, liftR, tAndM, tOrM, tNotM, tB, tTr, truD, e2, e1, eChain, eVar, eC, eL, eIf, eAnd, eOr, eNot, eTup, eLst, eBits, aCons, aNil, Res.bind, asgR, asgL, Pat.asg, List.map_cons, List.map_nil, List.set, Option.bind, Option.bind_some, List.getElem?_cons_succ, List.getElem?_cons_zero, List.length_cons, List.length_nil, List.replicate_succ, List.replicate_zero, List.cons_append, List.nil_append, Nat.reduceAdd, Nat.reduceSub, Nat.reduceLeDiff, Nat.zero_add, decide_true, decide_false, if_true, if_false, Bool.false_eq_true, Bool.not_true, Bool.not_false, eq_ii, ne_ii, lt_ii, gt_ii, le_ii, ge_ii, add_ii, sub_ii, h1']
    generalize hB : max (Builtin.Int.intBits (n : Int)) (Builtin.Int.intBits (d : Int)) = B
    have hB2 : B ≤ 50000 := by omega
    have hnB : n < 2 ^ B := Nat.lt_of_lt_of_le (lt_bits n) (Nat.pow_le_pow_right (by decide) (by omega))
    have hdB : d < 2 ^ B := Nat.lt_of_lt_of_le (lt_bits d) (Nat.pow_le_pow_right (by decide) (by omega))
    have mx : maxD [.int (((Builtin.Int.intBits (n : Int) : Nat)) : Int), .int (((Builtin.Int.intBits (d : Int) : Nat)) : Int)] M = .ok (.int (B : Int)) M := by
      rw [max_nn, hB]
    have key : ∀ (R : SR → Prop), (∀ (L p : Nat), Red n d k → R (.nx [some (.int (n : Int)), some (.int (d : Int)), some (.int (k : Int)), some (.int (L : Int)), some (.int (p : Int)), some (.int (B : Int))] M)) → (∀ r : Nat, 2 ≤ r → r ∣ k → Pw r n → Pw r d → R (.rt (.int (r : Int)) M)) →
        R (sWhile 100000 (tAndM (tB (e2 gtD (eVar 3) (eC (.int 1)))) (tB (e2 leD (eVar 4) (eVar 5)))) (sSeq (sIf (tB (e2 eqD (e2 modD (eVar 3) (eVar 4)) (eC (.int 0)))) (sSeq (sIf (tAndM (tTr (eL m_is_power_to (aCons (eVar 0) (aCons (eVar 4) aNil)))) (tTr (eL m_is_power_to (aCons (eVar 1) (aCons (eVar 4) aNil))))) (sRet (eVar 4)) sNil) (sWhile 100000 (tB (e2 eqD (e2 modD (eVar 3) (eVar 4)) (eC (.int 0)))) (sAsg (.nm 3) (e2 divD (eVar 3) (eVar 4))))) sNil) (sAsg (.nm 4) (e2 addD (eVar 4) (eC (.int 1)))))
          [some (.int (n : Int)), some (.int (d : Int)), some (.int (k : Int)), some (.int (k : Int)), some (.int 2), some (.int (B : Int))] M) := by
      intro R hR hRr
      refine while_rule (fun m ρ M' => M' = M ∧ ∃ L p : Nat, ρ = [some (.int (n : Int)), some (.int (d : Int)), some (.int (k : Int)), some (.int (L : Int)), some (.int (p : Int)), some (.int (B : Int))] ∧ 0 < L ∧ L ∣ k ∧ 2 ≤ p ∧ (∀ g, 2 ≤ g → g < p → ¬ g ∣ L) ∧ (∀ q, 2 ≤ q → q ∣ k → Pw q n → Pw q d → q ∣ L) ∧ B + 2 - p ≤ m) R ?_ 100000 (B + 2) _ M (by omega) ⟨rfl, k, 2, rfl, hk, Nat.dvd_refl k, by omega, fun g h1 h2 => by omega, fun q _ h _ _ => h, by omega⟩
      rintro m ρ M' ⟨rfl, L, p, rfl, hL, hLk, hp, small, all, hm⟩
      have hL2 : L < 100000 := Nat.lt_of_le_of_lt (Nat.le_of_dvd hk hLk) hk2
      by_cases hgo : 1 < L ∧ p ≤ B
      · obtain ⟨g1, g2⟩ := hgo
        have g1' : (1 : Int) < (L : Int) := by omega
        have g2' : (p : Int) ≤ (B : Int) := by omega
        have md := mod_nn (a := L) (b := p) M' (by omega)
        have cc : tAndM (tB (e2 gtD (eVar 3) (eC (.int 1)))) (tB (e2 leD (eVar 4) (eVar 5))) [some (.int (n : Int)), some (.int (d : Int)), some (.int (k : Int)), some (.int (L : Int)), some (.int (p : Int)), some (.int (B : Int))] M' = .ok true M' := by
          simp only [runB, sSeq, sIf, sNil, sPass, sCont, sPar, sAsg, sRet, sExpr, liftR, tAndM, tOrM, tNotM, tB, tTr, truD, e2, e1, eChain, eVar, eC, eL, eIf, eAnd, eOr, eNot, eTup, eLst, eBits, aCons, aNil, Res.bind, asgR, asgL, Pat.asg, List.map_cons, List.map_nil, List.set, Option.bind, Option.bind_some, List.getElem?_cons_succ, List.getElem?_cons_zero, List.length_cons, List.length_nil, List.replicate_succ, List.replicate_zero, List.cons_append, List.nil_append, Nat.reduceAdd, Nat.reduceSub, Nat.reduceLeDiff, Nat.zero_add, decide_true, decide_false, if_true, if_false, Bool.false_eq_true, Bool.not_true, Bool.not_false, eq_ii, ne_ii, lt_ii, gt_ii, le_ii, ge_ii, add_ii, sub_ii, g1', g2']
        refine .inr ⟨cc, ?_⟩
        by_cases h0 : L % p = 0
        · have h0' : ((L % p : Nat) : Int) = 0 := by omega
          have hpL : p ∣ L := Nat.dvd_of_mod_eq_zero h0
          obtain ⟨bn1, en1, hn1⟩ := ev_is_power_to n p M' (by omega) (by omega) (by omega)
          obtain ⟨bd1, ed1, hd1⟩ := ev_is_power_to d p M' (by omega) (by omega) (by omega)
          by_cases both : Pw p n ∧ Pw p d
          · obtain ⟨w1, w2⟩ := both
            have t1 : bn1 = true := hn1.mpr w1
            have t2 : bd1 = true := hd1.mpr w2
            subst t1 t2
            refine .inr ⟨.int (p : Int), M', ?_, hRr p hp (Nat.dvd_trans hpL hLk) w1 w2⟩
            simp only [runB, sSeq, sIf, sNil, sPass, sCont, sPar, sAsg, sRet, sExpr, liftR, tAndM, tOrM, tNotM, tB, tTr, truD, e2, e1, eChain, eVar, eC, eL, eIf, eAnd, eOr, eNot, eTup, eLst, eBits, aCons, aNil, Res.bind, asgR, asgL, Pat.asg, List.map_cons, List.map_nil, List.set, Option.bind, Option.bind_some, List.getElem?_cons_succ, List.getElem?_cons_zero, List.length_cons, List.length_nil, List.replicate_succ, List.replicate_zero, List.cons_append, List.nil_append, Nat.reduceAdd, Nat.reduceSub, Nat.reduceLeDiff, Nat.zero_add, decide_true, decide_false, if_true, if_false, Bool.false_eq_true, Bool.not_true, Bool.not_false, eq_ii, ne_ii, lt_ii, gt_ii, le_ii, ge_ii, add_ii, sub_ii, md, h0', en1, ed1]
          · have c2 : tAndM (tTr (eL m_is_power_to (aCons (eVar 0) (aCons (eVar 4) aNil)))) (tTr (eL m_is_power_to (aCons (eVar 1) (aCons (eVar 4) aNil)))) [some (.int (n : Int)), some (.int (d : Int)), some (.int (k : Int)), some (.int (L : Int)), some (.int (p : Int)), some (.int (B : Int))] M' = .ok false M' := by
              cases bn1 with
              | false => simp only [runB, sSeq, sIf, sNil, sPass, sCont, sPar, sAsg, sRet, sExpr, liftR, tAndM, tOrM, tNotM, tB, tTr, truD, e2, e1, eChain, eVar, eC, eL, eIf, eAnd, eOr, eNot, eTup, eLst, eBits, aCons, aNil, Res.bind, asgR, asgL, Pat.asg, List.map_cons, List.map_nil, List.set, Option.bind, Option.bind_some, List.getElem?_cons_succ, List.getElem?_cons_zero, List.length_cons, List.length_nil, List.replicate_succ, List.replicate_zero, List.cons_append, List.nil_append, Nat.reduceAdd, Nat.reduceSub, Nat.reduceLeDiff, Nat.zero_add, decide_true, decide_false, if_true, if_false, Bool.false_eq_true, Bool.not_true, Bool.not_false, eq_ii, ne_ii, lt_ii, gt_ii, le_ii, ge_ii, add_ii, sub_ii, en1]
              | true =>
                have : bd1 = false := by
                  cases bd1 with
                  | false => rfl
                  | true => exact absurd ⟨hn1.mp rfl, hd1.mp rfl⟩ both
                subst this
                simp only [runB, sSeq, sIf, sNil, sPass, sCont, sPar, sAsg, sRet, sExpr, liftR, tAndM, tOrM, tNotM, tB, tTr, truD, e2, e1, eChain, eVar, eC, eL, eIf, eAnd, eOr, eNot, eTup, eLst, eBits, aCons, aNil, Res.bind, asgR, asgL, Pat.asg, List.map_cons, List.map_nil, List.set, Option.bind, Option.bind_some, List.getElem?_cons_succ, List.getElem?_cons_zero, List.length_cons, List.length_nil, List.replicate_succ, List.replicate_zero, List.cons_append, List.nil_append, Nat.reduceAdd, Nat.reduceSub, Nat.reduceLeDiff, Nat.zero_add, decide_true, decide_false, if_true, if_false, Bool.false_eq_true, Bool.not_true, Bool.not_false, eq_ii, ne_ii, lt_ii, gt_ii, le_ii, ge_ii, add_ii, sub_ii, en1, ed1]
            refine .inl ?_
            have c3 : tB (e2 eqD (e2 modD (eVar 3) (eVar 4)) (eC (.int 0))) [some (.int (n : Int)), some (.int (d : Int)), some (.int (k : Int)), some (.int (L : Int)), some (.int (p : Int)), some (.int (B : Int))] M' = .ok true M' := by
              simp only [runB, sSeq, sIf, sNil, sPass, sCont, sPar, sAsg, sRet, sExpr, liftR, tAndM, tOrM, tNotM, tB, tTr, truD, e2, e1, eChain, eVar, eC, eL, eIf, eAnd, eOr, eNot, eTup, eLst, eBits, aCons, aNil, Res.bind, asgR, asgL, Pat.asg, List.map_cons, List.map_nil, List.set, Option.bind, Option.bind_some, List.getElem?_cons_succ, List.getElem?_cons_zero, List.length_cons, List.length_nil, List.replicate_succ, List.replicate_zero, List.cons_append, List.nil_append, Nat.reduceAdd, Nat.reduceSub, Nat.reduceLeDiff, Nat.zero_add, decide_true, decide_false, if_true, if_false, Bool.false_eq_true, Bool.not_true, Bool.not_false, eq_ii, ne_ii, lt_ii, gt_ii, le_ii, ge_ii, add_ii, sub_ii, md, h0']
            have st := run_strip (a := some (.int (n : Int))) (b := some (.int (d : Int))) (c := some (.int (k : Int))) (e := some (.int (B : Int))) (fun r => ∃ L' : Nat, r = .nx [some (.int (n : Int)), some (.int (d : Int)), some (.int (k : Int)), some (.int (L' : Int)), some (.int (p : Int)), some (.int (B : Int))] M' ∧ 0 < L' ∧ L' ∣ L ∧ ¬ p ∣ L' ∧ (∀ q, Nat.Coprime q p → q ∣ L → q ∣ L')) L p M' hL hp (by omega) hL2 (fun L' k1 k2 k3 k4 => ⟨L', rfl, k1, k2, k3, k4⟩)
            obtain ⟨L', es, k1, k2, k3, k4⟩ := st
            refine ⟨m - 1, [some (.int (n : Int)), some (.int (d : Int)), some (.int (k : Int)), some (.int (L' : Int)), some (.int ((p + 1 : Nat) : Int)), some (.int (B : Int))], M', by omega, ?_, rfl, L', p + 1, rfl, k1, Nat.dvd_trans k2 hLk, by omega, fun g q1 q2 q3 => ?_, fun q q1 q2 q3 q4 => ?_, by omega⟩
            · simp only [sSeq, sIf, liftR, c3, c2, if_true, if_false, Bool.false_eq_true, sNil, es]
              simp only [runB, sSeq, sIf, sNil, sPass, sCont, sPar, sAsg, sRet, sExpr, liftR, tAndM, tOrM, tNotM, tB, tTr, truD, e2, e1, eChain, eVar, eC, eL, eIf, eAnd, eOr, eNot, eTup, eLst, eBits, aCons, aNil, Res.bind, asgR, asgL, Pat.asg, List.map_cons, List.map_nil, List.set, Option.bind, Option.bind_some, List.getElem?_cons_succ, List.getElem?_cons_zero, List.length_cons, List.length_nil, List.replicate_succ, List.replicate_zero, List.cons_append, List.nil_append, Nat.reduceAdd, Nat.reduceSub, Nat.reduceLeDiff, Nat.zero_add, decide_true, decide_false, if_true, if_false, Bool.false_eq_true, Bool.not_true, Bool.not_false, eq_ii, ne_ii, lt_ii, gt_ii, le_ii, ge_ii, add_ii, sub_ii, asgR]
              rfl
            · rcases Nat.lt_or_ge g p with z | z
              · exact small g q1 z (Nat.dvd_trans q3 k2)
              · exact k3 (by rw [show p = g by omega]; exact q3)
            · refine k4 q (cop_of hp hpL small fun z => ?_) (all q q1 q2 q3 q4)
              obtain ⟨t, rfl⟩ := z
              exact both ⟨pw_mul q3, pw_mul q4⟩
        · have h0' : ¬ ((L % p : Nat) : Int) = 0 := by omega
          refine .inl ⟨m - 1, [some (.int (n : Int)), some (.int (d : Int)), some (.int (k : Int)), some (.int (L : Int)), some (.int ((p + 1 : Nat) : Int)), some (.int (B : Int))], M', by omega, ?_, rfl, L, p + 1, rfl, hL, hLk, by omega, fun g q1 q2 q3 => ?_, all, by omega⟩
          · simp only [runB, sSeq, sIf, sNil, sPass, sCont, sPar, sAsg, sRet, sExpr, liftR, tAndM, tOrM, tNotM, tB, tTr, truD, e2, e1, eChain, eVar, eC, eL, eIf, eAnd, eOr, eNot, eTup, eLst, eBits, aCons, aNil, Res.bind, asgR, asgL, Pat.asg, List.map_cons, List.map_nil, List.set, Option.bind, Option.bind_some, List.getElem?_cons_succ, List.getElem?_cons_zero, List.length_cons, List.length_nil, List.replicate_succ, List.replicate_zero, List.cons_append, List.nil_append, Nat.reduceAdd, Nat.reduceSub, Nat.reduceLeDiff, Nat.zero_add, decide_true, decide_false, if_true, if_false, Bool.false_eq_true, Bool.not_true, Bool.not_false, eq_ii, ne_ii, lt_ii, gt_ii, le_ii, ge_ii, add_ii, sub_ii, md, h0', asgR]
            rfl
          · rcases Nat.lt_or_ge g p with z | z
            · exact small g q1 z q3
            · exact h0 (Nat.mod_eq_zero_of_dvd (by rw [show p = g by omega]; exact q3))
      · refine .inl ⟨?_, hR L p fun q q1 q2 q3 q4 => ?_⟩
        · by_cases g1 : 1 < L
          · have g1' : (1 : Int) < (L : Int) := by omega
            have g2' : ¬ (p : Int) ≤ (B : Int) := by omega
            simp only [runB, sSeq, sIf, sNil, sPass, sCont, sPar, sAsg, sRet, sExpr, liftR, tAndM, tOrM, tNotM, tB, tTr, truD, e2, e1, eChain, eVar, eC, eL, eIf, eAnd, eOr, eNot, eTup, eLst, eBits, aCons, aNil, Res.bind, asgR, asgL, Pat.asg, List.map_cons, List.map_nil, List.set, Option.bind, Option.bind_some, List.getElem?_cons_succ, List.getElem?_cons_zero, List.length_cons, List.length_nil, List.replicate_succ, List.replicate_zero, List.cons_append, List.nil_append, Nat.reduceAdd, Nat.reduceSub, Nat.reduceLeDiff, Nat.zero_add, decide_true, decide_false, if_true, if_false, Bool.false_eq_true, Bool.not_true, Bool.not_false, eq_ii, ne_ii, lt_ii, gt_ii, le_ii, ge_ii, add_ii, sub_ii, g1', g2']
          · have g1' : ¬ (1 : Int) < (L : Int) := by omega
            simp only [runB, sSeq, sIf, sNil, sPass, sCont, sPar, sAsg, sRet, sExpr, liftR, tAndM, tOrM, tNotM, tB, tTr, truD, e2, e1, eChain, eVar, eC, eL, eIf, eAnd, eOr, eNot, eTup, eLst, eBits, aCons, aNil, Res.bind, asgR, asgL, Pat.asg, List.map_cons, List.map_nil, List.set, Option.bind, Option.bind_some, List.getElem?_cons_succ, List.getElem?_cons_zero, List.length_cons, List.length_nil, List.replicate_succ, List.replicate_zero, List.cons_append, List.nil_append, Nat.reduceAdd, Nat.reduceSub, Nat.reduceLeDiff, Nat.zero_add, decide_true, decide_false, if_true, if_false, Bool.false_eq_true, Bool.not_true, Bool.not_false, eq_ii, ne_ii, lt_ii, gt_ii, le_ii, ge_ii, add_ii, sub_ii, g1']
        · have hqL := all q q1 q2 q3 q4
          have hqle := Nat.le_of_dvd hL hqL
          have hBp : B < p := by omega
          have hpq : p ≤ q := by
            rcases Nat.lt_or_ge q p with z | z
            · exact absurd hqL (small q q1 z)
            · exact z
          have hpow : 2 ^ B ≤ 2 ^ q := Nat.pow_le_pow_right (by decide) (by omega)
          exact h11 ⟨pw_small hn (Nat.lt_of_lt_of_le hnB hpow) (by omega) q3, pw_small hd (Nat.lt_of_lt_of_le hdB hpow) (by omega) q4⟩
    have fin := key (fun r => ∃ v : Nat, (match (match r with | .nx ρ' M' => sRet (eC (.int 1)) ρ' M' | r => r) with | .rt d M' => Res.ok d M' | .nx _ M' => .ok .non M' | .exc e _ M' => .exc e M' | _ => .bad) = .ok (.int (v : Int)) M ∧ SDeg n d k v) (fun L p hr => ⟨1, by simp only [runB, sSeq, sIf, sNil, sPass, sCont, sPar, sAsg, sRet, sExpr, liftR, tAndM, tOrM, tNotM, tB, tTr, truD, e2, e1, eChain, eVar, eC, eL, eIf, eAnd, eOr, eNot, eTup, eLst, eBits, aCons, aNil, Res.bind, asgR, asgL, Pat.asg, List.map_cons, List.map_nil, List.set, Option.bind, Option.bind_some, List.getElem?_cons_succ, List.getElem?_cons_zero, List.length_cons, List.length_nil, List.replicate_succ, List.replicate_zero, List.cons_append, List.nil_append, Nat.reduceAdd, Nat.reduceSub, Nat.reduceLeDiff, Nat.zero_add, decide_true, decide_false, if_true, if_false, Bool.false_eq_true, Bool.not_true, Bool.not_false, eq_ii, ne_ii, lt_ii, gt_ii, le_ii, ge_ii, add_ii, sub_ii]; rfl, Nat.le_refl 1, fun z => by omega, fun _ => hr⟩) (fun r q1 q2 q3 q4 => ⟨r, rfl, by omega, fun _ => ⟨q2, q3, q4⟩, fun z => by omega⟩)
    obtain ⟨v, q, hv⟩ := fin
    refine ⟨v, ?_, hv⟩
    rw [← q]
    unfold m_shared_degree b_shared_degree
    simp only [runB, sSeq, sIf, liftR, List.map_cons, List.map_nil, List.length_cons, List.length_nil, Nat.zero_add, Nat.reduceAdd, Nat.reduceSub, List.replicate_succ, List.replicate_zero, List.cons_append, List.nil_append, c1, if_false, Bool.false_eq_true, sNil]
    simp only [runB, sSeq, sIf, sNil, sPass, sCont, sPar, sAsg, sRet, sExpr, liftR, tAndM, tOrM, tNotM, tB, tTr, truD, e2, e1, eChain, eVar, eC, eL, eIf, eAnd, eOr, eNot, eTup, eLst, eBits, aCons, aNil, Res.bind, asgR, asgL, Pat.asg, List.map_cons, List.map_nil, List.set, Option.bind, Option.bind_some, List.getElem?_cons_succ, List.getElem?_cons_zero, List.length_cons, List.length_nil, List.replicate_succ, List.replicate_zero, List.cons_append, List.nil_append, Nat.reduceAdd, Nat.reduceSub, Nat.reduceLeDiff, Nat.zero_add, decide_true, decide_false, if_true, if_false, Bool.false_eq_true, Bool.not_true, Bool.not_false, eq_ii, ne_ii, lt_ii, gt_ii, le_ii, ge_ii, add_ii, sub_ii, mx, asgR]
    try rfl
end K02
namespace K02
open PySem PySem.Spec DL NT
/-- lowest terms of a root: (x, y, z) stands for the k-th root of n / d -/
def Low (n d k x y z : Nat) : Prop := 0 < x ∧ 0 < y ∧ 0 < z ∧ Red x y z ∧ ∃ e, 0 < e ∧ x ^ e = n ∧ y ^ e = d ∧ z * e = k
theorem Low.unique {n d k x y z x' y' z' : Nat} (h : Low n d k x y z) (h' : Low n d k x' y' z') : x = x' ∧ y = y' ∧ z = z' := by
  obtain ⟨a1, a2, a3, a4, e, a5, a6, a7, a8⟩ := h
  obtain ⟨b1, b2, b3, b4, f, b5, b6, b7, b8⟩ := h'
  exact red_unique a4 b4 a1 b1 a2 b2 a5 b5 a3 b3 (a6.trans b6.symm) (a7.trans b7.symm) (a8.trans b8.symm)
theorem bits_mono {a b : Nat} (h : a ≤ b) : Builtin.Int.intBits (a : Int) ≤ Builtin.Int.intBits (b : Int) := bits_le (Nat.lt_of_le_of_lt h (lt_bits b))
theorem le_pow_self {x e : Nat} (he : 0 < e) (hx : 0 < x) : x ≤ x ^ e := by
  conv => lhs; rw [← Nat.pow_one x]
  exact Nat.pow_le_pow_right hx he
theorem gcd_nn (a b : Nat) (M : Mem) : gcdD [.int (a : Int), .int (b : Int)] M = .ok (.int ((Nat.gcd a b : Nat) : Int)) M := rfl
theorem log_bits {a k : Nat} (h0 : 0 < a) (h : Builtin.Int.intBits (a : Int) ≤ k) : a.log2 < k := by
  rw [bits_nn, if_neg (by omega)] at h
  omega
theorem run_lowest (n d k : Nat) (M : Mem) (R : SR → Prop) (hn : 0 < n) (hd : 0 < d) (hk : 0 < k) (hk2 : k < 100000) (bn : Builtin.Int.intBits (n : Int) ≤ 5000) (bd : Builtin.Int.intBits (d : Int) ≤ 5000) (g : Option D) (r0 : Nat) (h0 : SDeg n d k r0)
    (hR : ∀ (x y z : Nat) (u v : Option D), Low n d k x y z → R (.nx [some (.int (x : Int)), some (.int (y : Int)), some (.int (z : Int)), u, v] M)) :
    R (sWhile 100000 (tB (e2 gtD (eVar 4) (eC (.int 1)))) (sSeq (sPar [0, 1, 2] (aCons (eL m_whole_root (aCons (eVar 0) (aCons (eVar 4) aNil))) (aCons (eL m_whole_root (aCons (eVar 1) (aCons (eVar 4) aNil))) (aCons (e2 divD (eVar 2) (eVar 4)) aNil)))) (sAsg (.nm 4) (eL m_shared_degree (aCons (eVar 0) (aCons (eVar 1) (aCons (eVar 2) aNil))))))
      [some (.int (n : Int)), some (.int (d : Int)), some (.int (k : Int)), g, some (.int (r0 : Int))] M) := by
  refine while_rule (fun m ρ M' => M' = M ∧ ∃ x y r e : Nat, ρ = [some (.int (x : Int)), some (.int (y : Int)), some (.int (m : Int)), g, some (.int (r : Int))] ∧ 0 < x ∧ 0 < y ∧ 0 < m ∧ 0 < e ∧ x ^ e = n ∧ y ^ e = d ∧ m * e = k ∧ SDeg x y m r) R ?_ 100000 k _ M hk2 ⟨rfl, n, d, r0, 1, rfl, hn, hd, hk, by omega, by simp, by simp, by simp, h0⟩
  rintro m ρ M' ⟨rfl, x, y, r, e, rfl, hx, hy, hm, he, ex, ey, em, hs⟩
  have hxn : x ≤ n := by rw [← ex]; exact le_pow_self he hx
  have hyd : y ≤ d := by rw [← ey]; exact le_pow_self he hy
  have hmk : m ≤ k := by rw [← em]; exact Nat.le_mul_of_pos_right m he
  by_cases hr : 2 ≤ r
  · obtain ⟨h1, h2, h3⟩ := hs.2.1 hr
    have hrm := Nat.le_of_dvd hm h1
    obtain ⟨v, ev, v1, v2⟩ := ev_whole_root x r M' (by omega) (by omega) (by have := bits_mono hxn; omega)
    obtain ⟨w, ew, w1, w2⟩ := ev_whole_root y r M' (by omega) (by omega) (by have := bits_mono hyd; omega)
    have vx : v ^ r = x := (root_pw (by omega) v1 v2).mp h2
    have wy : w ^ r = y := (root_pw (by omega) w1 w2).mp h3
    have hv : 0 < v := Nat.pos_of_ne_zero fun z => by
      rw [z, Nat.zero_pow (by omega)] at vx
      omega
    have hw : 0 < w := Nat.pos_of_ne_zero fun z => by
      rw [z, Nat.zero_pow (by omega)] at wy
      omega
    have hvx : v ≤ x := by rw [← vx]; exact le_pow_self (by omega) hv
    have hwy : w ≤ y := by rw [← wy]; exact le_pow_self (by omega) hw
    have dv := div_nn (a := m) (b := r) M' (by omega) (by
      have : r.log2 < 17 := (Nat.log2_lt (by omega)).mpr (by omega)
      omega)
    have hq : 0 < m / r := Nat.div_pos hrm (by omega)
    obtain ⟨r', er', hr'⟩ := ev_shared_degree v w (m / r) M' hv hw hq (by have := Nat.div_le_self m r; omega) (by have := bits_mono (Nat.le_trans hvx hxn); omega) (by have := bits_mono (Nat.le_trans hwy hyd); omega)
    have gr : (1 : Int) < (r : Int) := by omega
    refine .inr ⟨by simp only [runB, sSeq, sIf, sNil, sPass, sCont, sPar, sAsg, sRet, sExpr, liftR, tAndM, tOrM, tNotM, tB, tTr, truD, e2, e1, eChain, eVar, eC, eL, eIf, eAnd, eOr, eNot, eTup, eLst, eBits, aCons, aNil, Res.bind, asgR, asgL, Pat.asg, List.map_cons, List.map_nil, List.set, Option.bind, Option.bind_some, List.getElem?_cons_succ, List.getElem?_cons_zero, List.length_cons, List.length_nil, List.replicate_succ, List.replicate_zero, List.cons_append, List.nil_append, Nat.reduceAdd, Nat.reduceSub, Nat.reduceLeDiff, Nat.zero_add, decide_true, decide_false, if_true, if_false, Bool.false_eq_true, Bool.not_true, Bool.not_false, eq_ii, ne_ii, lt_ii, gt_ii, le_ii, ge_ii, add_ii, sub_ii, gr], .inl ⟨m / r, [some (.int (v : Int)), some (.int (w : Int)), some (.int ((m / r : Nat) : Int)), g, some (.int (r' : Int))], M', Nat.div_lt_self hm hr, ?_, rfl, v, w, r', r * e, rfl, hv, hw, hq, Nat.mul_pos (by omega) he, ?_, ?_, ?_, hr'⟩⟩
    · simp only [runB, sSeq, sIf, sNil, sPass, sCont, sPar, sAsg, sRet, sExpr, liftR, tAndM, tOrM, tNotM, tB, tTr, truD, e2, e1, eChain, eVar, eC, eL, eIf, eAnd, eOr, eNot, eTup, eLst, eBits, aCons, aNil, Res.bind, asgR, asgL, Pat.asg, List.map_cons, List.map_nil, List.set, Option.bind, Option.bind_some, List.getElem?_cons_succ, List.getElem?_cons_zero, List.length_cons, List.length_nil, List.replicate_succ, List.replicate_zero, List.cons_append, List.nil_append, Nat.reduceAdd, Nat.reduceSub, Nat.reduceLeDiff, Nat.zero_add, decide_true, decide_false, if_true, if_false, Bool.false_eq_true, Bool.not_true, Bool.not_false, eq_ii, ne_ii, lt_ii, gt_ii, le_ii, ge_ii, add_ii, sub_ii, ev, ew, dv, asgR, er']
    · rw [Nat.pow_mul, vx, ex]
    · rw [Nat.pow_mul, wy, ey]
    · rw [← Nat.mul_assoc, Nat.div_mul_cancel h1, em]
  · have gr : ¬ (1 : Int) < (r : Int) := by omega
    exact .inl ⟨by simp only [runB, sSeq, sIf, sNil, sPass, sCont, sPar, sAsg, sRet, sExpr, liftR, tAndM, tOrM, tNotM, tB, tTr, truD, e2, e1, eChain, eVar, eC, eL, eIf, eAnd, eOr, eNot, eTup, eLst, eBits, aCons, aNil, Res.bind, asgR, asgL, Pat.asg, List.map_cons, List.map_nil, List.set, Option.bind, Option.bind_some, List.getElem?_cons_succ, List.getElem?_cons_zero, List.length_cons, List.length_nil, List.replicate_succ, List.replicate_zero, List.cons_append, List.nil_append, Nat.reduceAdd, Nat.reduceSub, Nat.reduceLeDiff, Nat.zero_add, decide_true, decide_false, if_true, if_false, Bool.false_eq_true, Bool.not_true, Bool.not_false, eq_ii, ne_ii, lt_ii, gt_ii, le_ii, ge_ii, add_ii, sub_ii, gr], hR x y m _ _ ⟨hx, hy, hm, hs.2.2 (by have := hs.1; omega), e, he, ex, ey, em⟩⟩
theorem ev_lowest (n d k : Nat) (M : Mem) (hn : 0 < n) (hd : 0 < d) (hk : 0 < k) (hk2 : k < 100000) (bn : Builtin.Int.intBits (n : Int) ≤ 5000) (bd : Builtin.Int.intBits (d : Int) ≤ 5000) :
    ∃ x y z : Nat, m_lowest [.int (n : Int), .int (d : Int), .int (k : Int)] M = .ok (.tup [.int (x : Int), .int (y : Int), .int (z : Int)]) M ∧ Low (n / Nat.gcd n d) (d / Nat.gcd n d) k x y z := by
  have hg : 0 < Nat.gcd n d := Nat.gcd_pos_of_pos_left _ hn
  have hgn := Nat.le_of_dvd hn (Nat.gcd_dvd_left n d)
  have hgd := Nat.le_of_dvd hd (Nat.gcd_dvd_right n d)
  have gl : (Nat.gcd n d).log2 < 9000 := by
    have := log_bits hg (Nat.le_trans (bits_mono hgn) bn)
    omega
  have dn := div_nn (a := n) (b := Nat.gcd n d) M hg gl
  have dd := div_nn (a := d) (b := Nat.gcd n d) M hg gl
  have hn' : 0 < n / Nat.gcd n d := Nat.div_pos hgn hg
  have hd' : 0 < d / Nat.gcd n d := Nat.div_pos hgd hg
  have bn' := Nat.le_trans (bits_mono (Nat.div_le_self n (Nat.gcd n d))) bn
  have bd' := Nat.le_trans (bits_mono (Nat.div_le_self d (Nat.gcd n d))) bd
  generalize n / Nat.gcd n d = n1 at *
  generalize d / Nat.gcd n d = d1 at *
  obtain ⟨r0, er0, h0⟩ := ev_shared_degree n1 d1 k M hn' hd' hk hk2 (by omega) (by omega)
  have fin := run_lowest n1 d1 k M (fun r => ∃ x y z : Nat, (match (match r with | .nx ρ' M' => sRet (eTup (aCons (eVar 0) (aCons (eVar 1) (aCons (eVar 2) aNil)))) ρ' M' | r => r) with | .rt d M' => Res.ok d M' | .nx _ M' => .ok .non M' | .exc e _ M' => .exc e M' | _ => .bad) = .ok (.tup [.int (x : Int), .int (y : Int), .int (z : Int)]) M ∧ Low n1 d1 k x y z) hn' hd' hk hk2 bn' bd' (some (.int ((Nat.gcd n d : Nat) : Int))) r0 h0 (fun x y z u v h => ⟨x, y, z, by simp only [runB, sSeq, sIf, sNil, sPass, sCont, sPar, sAsg, sRet, sExpr, liftR, tAndM, tOrM, tNotM, tB, tTr, truD, e2, e1, eChain, eVar, eC, eL, eIf, eAnd, eOr, eNot, eTup, eLst, eBits, aCons, aNil, Res.bind, asgR, asgL, Pat.asg, List.map_cons, List.map_nil, List.set, Option.bind, Option.bind_some, List.getElem?_cons_succ, List.getElem?_cons_zero, List.length_cons, List.length_nil, List.replicate_succ, List.replicate_zero, List.cons_append, List.nil_append, Nat.reduceAdd, Nat.reduceSub, Nat.reduceLeDiff, Nat.zero_add, decide_true, decide_false, if_true, if_false, Bool.false_eq_true, Bool.not_true, Bool.not_false, eq_ii, ne_ii, lt_ii, gt_ii, le_ii, ge_ii, add_ii, sub_ii], h⟩)
  obtain ⟨x, y, z, q, h⟩ := fin
  refine ⟨x, y, z, ?_, h⟩
  rw [← q]
  unfold m_lowest b_lowest
  simp only [runB, sSeq, sIf, sNil, sPass, sCont, sPar, sAsg, sRet, sExpr, liftR, tAndM, tOrM, tNotM, tB, tTr, truD, e2, e1, eChain, eVar, eC, eL, eIf, eAnd, eOr, eNot, eTup, eLst, eBits, aCons, aNil, Res.bind, asgR, asgL, Pat.asg, List.map_cons, List.map_nil, List.set, Option.bind, Option.bind_some, List.getElem?_cons_succ, List.getElem?_cons_zero, List.length_cons, List.length_nil, List.replicate_succ, List.replicate_zero, List.cons_append, List.nil_append, Nat.reduceAdd, Nat.reduceSub, Nat.reduceLeDiff, Nat.zero_add, decide_true, decide_false, if_true, if_false, Bool.false_eq_true, Bool.not_true, Bool.not_false, eq_ii, ne_ii, lt_ii, gt_ii, le_ii, ge_ii, add_ii, sub_ii, gcd_nn, dn, dd, asgR, er0]
  try rfl
end K02
namespace K02
open PySem PySem.Spec DL NT
theorem abs_i (a : Int) (M : Mem) : absD [.int a] M = .ok (.int (a.natAbs : Int)) M := by
  show Res.ok (D.int (if a < 0 then -a else a)) M = _
  by_cases h : a < 0
  · rw [if_pos h, show -a = (a.natAbs : Int) by omega]
  · rw [if_neg h]
    conv => lhs; rw [show a = (a.natAbs : Int) by omega]
theorem int_i (a : Int) (M : Mem) : intD [.int a] M = .ok (.int a) M := rfl
theorem ev_law_gcd (a b : Int) (M : Mem) (ba : Builtin.Int.intBits (a.natAbs : Int) ≤ 40000) (bb : Builtin.Int.intBits (b.natAbs : Int) ≤ 40000) : m_law_gcd [.int a, .int b] M = .ok (.int ((Nat.gcd a.natAbs b.natAbs : Nat) : Int)) M := by
  generalize ha : a.natAbs = x0 at *
  generalize hb : b.natAbs = y0 at *
  have key : ∀ (R : SR → Prop), R (.nx [some (.int ((Nat.gcd x0 y0 : Nat) : Int)), some (.int 0)] M) → R (sWhile 100000 (tB (e2 neD (eVar 1) (eC (.int 0)))) (sPar [0, 1] (aCons (eVar 1) (aCons (e2 modD (eL intD (aCons (eVar 0) aNil)) (eVar 1)) aNil))) [some (.int (x0 : Int)), some (.int (y0 : Int))] M) := by
    intro R hR
    refine while_rule (fun m ρ M' => M' = M ∧ ∃ x y : Nat, ρ = [some (.int (x : Int)), some (.int (y : Int))] ∧ Nat.gcd x y = Nat.gcd x0 y0 ∧ Builtin.Int.intBits (x : Int) + Builtin.Int.intBits (y : Int) + (if x < y then 1 else 0) ≤ m) R ?_ 100000 (Builtin.Int.intBits (x0 : Int) + Builtin.Int.intBits (y0 : Int) + 1) _ M (by omega) ⟨rfl, x0, y0, rfl, rfl, by split <;> omega⟩
    rintro m ρ M' ⟨rfl, x, y, rfl, hg, hm⟩
    by_cases hy : y = 0
    · subst hy
      rw [Nat.gcd_zero_right] at hg
      subst hg
      exact .inl ⟨by simp only [runB, sSeq, sIf, sNil, sPass, sCont, sPar, sAsg, sRet, sExpr, liftR, tAndM, tOrM, tNotM, tB, tTr, truD, e2, e1, eChain, eVar, eC, eL, eIf, eAnd, eOr, eNot, eTup, eLst, eBits, aCons, aNil, Res.bind, asgR, asgL, Pat.asg, List.map_cons, List.map_nil, List.set, Option.bind, Option.bind_some, List.getElem?_cons_succ, List.getElem?_cons_zero, List.length_cons, List.length_nil, List.replicate_succ, List.replicate_zero, List.cons_append, List.nil_append, Nat.reduceAdd, Nat.reduceSub, Nat.reduceLeDiff, Nat.zero_add, decide_true, decide_false, if_true, if_false, Bool.false_eq_true, Bool.not_true, Bool.not_false, eq_ii, ne_ii, lt_ii, gt_ii, le_ii, ge_ii, add_ii, sub_ii, show (((0 : Nat) : Int) = 0) from rfl], hR⟩
    · have hy' : ¬ (y : Int) = 0 := by omega
      have md := mod_nn (a := x) (b := y) M' (by omega)
      have hlt := Nat.mod_lt x (show y > 0 by omega)
      refine .inr ⟨by simp only [runB, sSeq, sIf, sNil, sPass, sCont, sPar, sAsg, sRet, sExpr, liftR, tAndM, tOrM, tNotM, tB, tTr, truD, e2, e1, eChain, eVar, eC, eL, eIf, eAnd, eOr, eNot, eTup, eLst, eBits, aCons, aNil, Res.bind, asgR, asgL, Pat.asg, List.map_cons, List.map_nil, List.set, Option.bind, Option.bind_some, List.getElem?_cons_succ, List.getElem?_cons_zero, List.length_cons, List.length_nil, List.replicate_succ, List.replicate_zero, List.cons_append, List.nil_append, Nat.reduceAdd, Nat.reduceSub, Nat.reduceLeDiff, Nat.zero_add, decide_true, decide_false, if_true, if_false, Bool.false_eq_true, Bool.not_true, Bool.not_false, eq_ii, ne_ii, lt_ii, gt_ii, le_ii, ge_ii, add_ii, sub_ii, hy'], .inl ⟨m - 1, [some (.int (y : Int)), some (.int ((x % y : Nat) : Int))], M', ?_, by simp only [runB, sSeq, sIf, sNil, sPass, sCont, sPar, sAsg, sRet, sExpr, liftR, tAndM, tOrM, tNotM, tB, tTr, truD, e2, e1, eChain, eVar, eC, eL, eIf, eAnd, eOr, eNot, eTup, eLst, eBits, aCons, aNil, Res.bind, asgR, asgL, Pat.asg, List.map_cons, List.map_nil, List.set, Option.bind, Option.bind_some, List.getElem?_cons_succ, List.getElem?_cons_zero, List.length_cons, List.length_nil, List.replicate_succ, List.replicate_zero, List.cons_append, List.nil_append, Nat.reduceAdd, Nat.reduceSub, Nat.reduceLeDiff, Nat.zero_add, decide_true, decide_false, if_true, if_false, Bool.false_eq_true, Bool.not_true, Bool.not_false, eq_ii, ne_ii, lt_ii, gt_ii, le_ii, ge_ii, add_ii, sub_ii, int_i, md, asgR], rfl, y, x % y, rfl, ?_, ?_⟩⟩
      · by_cases hxy : x < y
        · rw [if_pos hxy] at hm
          omega
        · have : 0 < Builtin.Int.intBits (y : Int) := by
            rw [bits_nn, if_neg hy]
            omega
          omega
      · rw [← hg, Nat.gcd_comm y, Nat.gcd_comm x y]
        exact (Nat.gcd_rec y x).symm ▸ rfl
      · rw [if_neg (by omega)]
        by_cases hxy : x < y
        · rw [if_pos hxy] at hm
          rw [Nat.mod_eq_of_lt hxy]
          omega
        · have h2 : 2 * (x % y) < x := by
            have h3 := Nat.div_add_mod x y
            have h4 : 1 ≤ x / y := Nat.div_pos (by omega) (by omega)
            have h5 : y ≤ y * (x / y) := Nat.le_mul_of_pos_right y h4
            omega
          have h6 : 0 < Builtin.Int.intBits (x : Int) := by
            rw [bits_nn, if_neg (by omega)]
            omega
          have h7 := lt_bits x
          obtain ⟨j, hj⟩ := Nat.exists_eq_succ_of_ne_zero (show Builtin.Int.intBits (x : Int) ≠ 0 by omega)
          rw [hj] at h7 hm
          have h8 : Builtin.Int.intBits ((x % y : Nat) : Int) ≤ j := bits_le (by
            rw [Nat.succ_eq_add_one, Nat.pow_succ] at h7
            omega)
          omega
  unfold m_law_gcd b_law_gcd
  have fin := key (fun r => (match (match r with | .nx ρ' M' => sRet (eVar 0) ρ' M' | r => r) with | .rt d M' => Res.ok d M' | .nx _ M' => .ok .non M' | .exc e _ M' => .exc e M' | _ => .bad) = .ok (.int ((Nat.gcd x0 y0 : Nat) : Int)) M) (by simp only [runB, sSeq, sIf, sNil, sPass, sCont, sPar, sAsg, sRet, sExpr, liftR, tAndM, tOrM, tNotM, tB, tTr, truD, e2, e1, eChain, eVar, eC, eL, eIf, eAnd, eOr, eNot, eTup, eLst, eBits, aCons, aNil, Res.bind, asgR, asgL, Pat.asg, List.map_cons, List.map_nil, List.set, Option.bind, Option.bind_some, List.getElem?_cons_succ, List.getElem?_cons_zero, List.length_cons, List.length_nil, List.replicate_succ, List.replicate_zero, List.cons_append, List.nil_append, Nat.reduceAdd, Nat.reduceSub, Nat.reduceLeDiff, Nat.zero_add, decide_true, decide_false, if_true, if_false, Bool.false_eq_true, Bool.not_true, Bool.not_false, eq_ii, ne_ii, lt_ii, gt_ii, le_ii, ge_ii, add_ii, sub_ii])
  rw [← fin]
  simp only [runB, sSeq, sIf, sNil, sPass, sCont, sPar, sAsg, sRet, sExpr, liftR, tAndM, tOrM, tNotM, tB, tTr, truD, e2, e1, eChain, eVar, eC, eL, eIf, eAnd, eOr, eNot, eTup, eLst, eBits, aCons, aNil, Res.bind, asgR, asgL, Pat.asg, List.map_cons, List.map_nil, List.set, Option.bind, Option.bind_some, List.getElem?_cons_succ, List.getElem?_cons_zero, List.length_cons, List.length_nil, List.replicate_succ, List.replicate_zero, List.cons_append, List.nil_append, Nat.reduceAdd, Nat.reduceSub, Nat.reduceLeDiff, Nat.zero_add, decide_true, decide_false, if_true, if_false, Bool.false_eq_true, Bool.not_true, Bool.not_false, eq_ii, ne_ii, lt_ii, gt_ii, le_ii, ge_ii, add_ii, sub_ii, abs_i, ha, hb, asgR]
  try rfl
theorem ev_law_low (a : Int) (d : Nat) (M : Mem) (hd : 0 < d) (ba : Builtin.Int.intBits (a.natAbs : Int) ≤ 5000) (bd : Builtin.Int.intBits (d : Int) ≤ 5000) : m_law_low [.int a, .int (d : Int)] M = .ok (.tup [.int (a.fdiv (Nat.gcd a.natAbs d : Nat)), .int ((d / Nat.gcd a.natAbs d : Nat) : Int)]) M := by
  have g := ev_law_gcd a (d : Int) M (by omega) (by rw [Int.natAbs_natCast]; omega)
  rw [Int.natAbs_natCast] at g
  have hg : 0 < Nat.gcd a.natAbs d := Nat.gcd_pos_of_pos_right _ hd
  have gl : (Nat.gcd a.natAbs d).log2 < 9000 := by
    have := log_bits hg (Nat.le_trans (bits_mono (Nat.le_of_dvd hd (Nat.gcd_dvd_right a.natAbs d))) bd)
    omega
  have hd' : (0 : Int) < (d : Int) := by omega
  have dv := div_nn (a := d) (b := Nat.gcd a.natAbs d) M hg gl
  have da : divD (.int a) (.int ((Nat.gcd a.natAbs d : Nat) : Int)) M = .ok (.int (a.fdiv (Nat.gcd a.natAbs d : Nat))) M := by
    show (if divOk a _ = true then Res.ok _ M else .bad) = _
    rw [if_pos (by
      unfold divOk
      rw [decide_eq_true (show (0 : Int) < ((Nat.gcd a.natAbs d : Nat) : Int) by omega), decide_eq_true (show ((Nat.gcd a.natAbs d : Nat) : Int).natAbs.log2 < 9000 by simpa using gl)]
      rfl)]
  unfold m_law_low b_law_low
  simp only [runB, sSeq, sIf, sNil, sPass, sCont, sPar, sAsg, sRet, sExpr, liftR, tAndM, tOrM, tNotM, tB, tTr, truD, e2, e1, eChain, eVar, eC, eL, eIf, eAnd, eOr, eNot, eTup, eLst, eBits, aCons, aNil, Res.bind, asgR, asgL, Pat.asg, List.map_cons, List.map_nil, List.set, Option.bind, Option.bind_some, List.getElem?_cons_succ, List.getElem?_cons_zero, List.length_cons, List.length_nil, List.replicate_succ, List.replicate_zero, List.cons_append, List.nil_append, Nat.reduceAdd, Nat.reduceSub, Nat.reduceLeDiff, Nat.zero_add, decide_true, decide_false, if_true, if_false, Bool.false_eq_true, Bool.not_true, Bool.not_false, eq_ii, ne_ii, lt_ii, gt_ii, le_ii, ge_ii, add_ii, sub_ii, hd', g, asgR, da, dv]
theorem and1 (m : Nat) (M : Mem) : andD (.int (m : Int)) (.int 1) M = .ok (.int ((m % 2 : Nat) : Int)) M := by
  show Res.ok (D.int (Builtin.bitAnd (m : Int) 1)) M = _
  rw [PyProof.Rows.bitAnd_m1]
  rfl
theorem shr1 (m : Nat) (M : Mem) : shrD (.int (m : Int)) (.int 1) M = .ok (.int ((m / 2 : Nat) : Int)) M := rfl
theorem ev_law_pow (a n s : Nat) (M : Mem) (ha : a ≤ 2 ^ s) (hb : 2 * (s * n) < 1000000) (hn : n < 100000) : m_law_pow [.int (a : Int), .int (n : Int)] M = .ok (.int ((a ^ n : Nat) : Int)) M := by
  have key : ∀ (R : SR → Prop), (∀ x : Nat, R (.nx [some (.int (x : Int)), some (.int 0), some (.int ((a ^ n : Nat) : Int))] M)) →
      R (sWhile 100000 (tB (e2 gtD (eVar 1) (eC (.int 0)))) (sPar [2, 0, 1] (aCons (eIf (tB (e2 eqD (e2 andD (eVar 1) (eC (.int 1))) (eC (.int 1)))) (e2 mulI (eVar 2) (eVar 0)) (eVar 2)) (aCons (eIf (tB (e2 gtD (eVar 1) (eC (.int 1)))) (e2 mulI (eVar 0) (eVar 0)) (eVar 0)) (aCons (e2 shrD (eVar 1) (eC (.int 1))) aNil)))) [some (.int (a : Int)), some (.int (n : Int)), some (.int 1)] M) := by
    intro R hR
    refine while_rule (fun m ρ M' => M' = M ∧ ∃ x f w e : Nat, ρ = [some (.int (x : Int)), some (.int (m : Int)), some (.int (f : Int))] ∧ f * x ^ m = a ^ n ∧ x ≤ 2 ^ (s * w) ∧ f ≤ 2 ^ (s * e) ∧ w * m + e ≤ n ∧ 1 ≤ w) R ?_ 100000 n _ M hn ⟨rfl, a, 1, 1, 0, rfl, by simp, by simpa using ha, by simp, by omega, by omega⟩
    rintro m ρ M' ⟨rfl, x, f, w, e, rfl, hv, hx, hf, hw, hw1⟩
    by_cases hm : m = 0
    · subst hm
      refine .inl ⟨by simp only [runB, sSeq, sIf, sNil, sPass, sCont, sPar, sAsg, sRet, sExpr, liftR, tAndM, tOrM, tNotM, tB, tTr, truD, e2, e1, eChain, eVar, eC, eL, eIf, eAnd, eOr, eNot, eTup, eLst, eBits, aCons, aNil, Res.bind, asgR, asgL, Pat.asg, List.map_cons, List.map_nil, List.set, Option.bind, Option.bind_some, List.getElem?_cons_succ, List.getElem?_cons_zero, List.length_cons, List.length_nil, List.replicate_succ, List.replicate_zero, List.cons_append, List.nil_append, Nat.reduceAdd, Nat.reduceSub, Nat.reduceLeDiff, Nat.zero_add, decide_true, decide_false, if_true, if_false, Bool.false_eq_true, Bool.not_true, Bool.not_false, eq_ii, ne_ii, lt_ii, gt_ii, le_ii, ge_ii, add_ii, sub_ii, show ¬ (0 : Int) < ((0 : Nat) : Int) from by decide], ?_⟩
      have e1 : f = a ^ n := by simpa using hv
      rw [e1]
      exact hR x
    · have hm0 : (0 : Int) < (m : Int) := by omega
      have lx := log_le hx
      have lf := log_le hf
      have hsw : s * w ≤ s * n := Nat.mul_le_mul_left s (Nat.le_trans (Nat.le_mul_of_pos_right w (by omega)) (by omega : w * m ≤ n))
      have hse : s * e ≤ s * n := Nat.mul_le_mul_left s (by omega)
      have xx := mul_nn (a := x) (b := x) M' (by omega)
      have fx := mul_nn (a := f) (b := x) M' (by omega)
      have hdm := Nat.div_add_mod m 2
      refine .inr ⟨by simp only [runB, sSeq, sIf, sNil, sPass, sCont, sPar, sAsg, sRet, sExpr, liftR, tAndM, tOrM, tNotM, tB, tTr, truD, e2, e1, eChain, eVar, eC, eL, eIf, eAnd, eOr, eNot, eTup, eLst, eBits, aCons, aNil, Res.bind, asgR, asgL, Pat.asg, List.map_cons, List.map_nil, List.set, Option.bind, Option.bind_some, List.getElem?_cons_succ, List.getElem?_cons_zero, List.length_cons, List.length_nil, List.replicate_succ, List.replicate_zero, List.cons_append, List.nil_append, Nat.reduceAdd, Nat.reduceSub, Nat.reduceLeDiff, Nat.zero_add, decide_true, decide_false, if_true, if_false, Bool.false_eq_true, Bool.not_true, Bool.not_false, eq_ii, ne_ii, lt_ii, gt_ii, le_ii, ge_ii, add_ii, sub_ii, hm0], .inl ?_⟩
      have two : ∃ y : Nat, eIf (tB (e2 gtD (eVar 1) (eC (.int 1)))) (e2 mulI (eVar 0) (eVar 0)) (eVar 0) [some (.int (x : Int)), some (.int (m : Int)), some (.int (f : Int))] M' = .ok (.int (y : Int)) M' ∧ (y = x * x ∨ (m = 1 ∧ y = x)) := by
        by_cases h1 : 1 < m
        · have h1' : (1 : Int) < (m : Int) := by omega
          exact ⟨x * x, by simp only [runB, sSeq, sIf, sNil, sPass, sCont, sPar, sAsg, sRet, sExpr, liftR, tAndM, tOrM, tNotM, tB, tTr, truD, e2, e1, eChain, eVar, eC, eL, eIf, eAnd, eOr, eNot, eTup, eLst, eBits, aCons, aNil, Res.bind, asgR, asgL, Pat.asg, List.map_cons, List.map_nil, List.set, Option.bind, Option.bind_some, List.getElem?_cons_succ, List.getElem?_cons_zero, List.length_cons, List.length_nil, List.replicate_succ, List.replicate_zero, List.cons_append, List.nil_append, Nat.reduceAdd, Nat.reduceSub, Nat.reduceLeDiff, Nat.zero_add, decide_true, decide_false, if_true, if_false, Bool.false_eq_true, Bool.not_true, Bool.not_false, eq_ii, ne_ii, lt_ii, gt_ii, le_ii, ge_ii, add_ii, sub_ii, h1', xx], .inl rfl⟩
        · have h1' : ¬ (1 : Int) < (m : Int) := by omega
          exact ⟨x, by simp only [runB, sSeq, sIf, sNil, sPass, sCont, sPar, sAsg, sRet, sExpr, liftR, tAndM, tOrM, tNotM, tB, tTr, truD, e2, e1, eChain, eVar, eC, eL, eIf, eAnd, eOr, eNot, eTup, eLst, eBits, aCons, aNil, Res.bind, asgR, asgL, Pat.asg, List.map_cons, List.map_nil, List.set, Option.bind, Option.bind_some, List.getElem?_cons_succ, List.getElem?_cons_zero, List.length_cons, List.length_nil, List.replicate_succ, List.replicate_zero, List.cons_append, List.nil_append, Nat.reduceAdd, Nat.reduceSub, Nat.reduceLeDiff, Nat.zero_add, decide_true, decide_false, if_true, if_false, Bool.false_eq_true, Bool.not_true, Bool.not_false, eq_ii, ne_ii, lt_ii, gt_ii, le_ii, ge_ii, add_ii, sub_ii, h1'], .inr ⟨by omega, rfl⟩⟩
      obtain ⟨y, ey, hy⟩ := two
      have hy2 : y ^ (m / 2) = (x * x) ^ (m / 2) := by
        rcases hy with rfl | ⟨rfl, rfl⟩
        · rfl
        · rfl
      have hy3 : y ≤ 2 ^ (s * (2 * w)) := by
        have h4 : x * x ≤ 2 ^ (s * (2 * w)) := by
          rw [show s * (2 * w) = s * w + s * w by rw [Nat.mul_left_comm, Nat.two_mul], Nat.pow_add]
          exact Nat.mul_le_mul hx hx
        rcases hy with rfl | ⟨_, rfl⟩
        · exact h4
        · exact Nat.le_trans hx (Nat.pow_le_pow_right (by decide) (Nat.mul_le_mul_left s (by omega)))
      by_cases h1 : m % 2 = 1
      · have h1' : ((m % 2 : Nat) : Int) = 1 := by omega
        refine ⟨m / 2, [some (.int (y : Int)), some (.int ((m / 2 : Nat) : Int)), some (.int ((f * x : Nat) : Int))], M', by omega, ?_, rfl, y, f * x, 2 * w, w + e, rfl, ?_, hy3, ?_, ?_, by omega⟩
        · have o1 : eIf (tB (e2 eqD (e2 andD (eVar 1) (eC (.int 1))) (eC (.int 1)))) (e2 mulI (eVar 2) (eVar 0)) (eVar 2) [some (.int (x : Int)), some (.int (m : Int)), some (.int (f : Int))] M' = .ok (.int ((f * x : Nat) : Int)) M' := by
            simp only [runB, sSeq, sIf, sNil, sPass, sCont, sPar, sAsg, sRet, sExpr, liftR, tAndM, tOrM, tNotM, tB, tTr, truD, e2, e1, eChain, eVar, eC, eL, eIf, eAnd, eOr, eNot, eTup, eLst, eBits, aCons, aNil, Res.bind, asgR, asgL, Pat.asg, List.map_cons, List.map_nil, List.set, Option.bind, Option.bind_some, List.getElem?_cons_succ, List.getElem?_cons_zero, List.length_cons, List.length_nil, List.replicate_succ, List.replicate_zero, List.cons_append, List.nil_append, Nat.reduceAdd, Nat.reduceSub, Nat.reduceLeDiff, Nat.zero_add, decide_true, decide_false, if_true, if_false, Bool.false_eq_true, Bool.not_true, Bool.not_false, eq_ii, ne_ii, lt_ii, gt_ii, le_ii, ge_ii, add_ii, sub_ii, and1, h1', fx]
          have o3 : e2 shrD (eVar 1) (eC (.int 1)) [some (.int (x : Int)), some (.int (m : Int)), some (.int (f : Int))] M' = .ok (.int ((m / 2 : Nat) : Int)) M' := by
            simp only [runB, sSeq, sIf, sNil, sPass, sCont, sPar, sAsg, sRet, sExpr, liftR, tAndM, tOrM, tNotM, tB, tTr, truD, e2, e1, eChain, eVar, eC, eL, eIf, eAnd, eOr, eNot, eTup, eLst, eBits, aCons, aNil, Res.bind, asgR, asgL, Pat.asg, List.map_cons, List.map_nil, List.set, Option.bind, Option.bind_some, List.getElem?_cons_succ, List.getElem?_cons_zero, List.length_cons, List.length_nil, List.replicate_succ, List.replicate_zero, List.cons_append, List.nil_append, Nat.reduceAdd, Nat.reduceSub, Nat.reduceLeDiff, Nat.zero_add, decide_true, decide_false, if_true, if_false, Bool.false_eq_true, Bool.not_true, Bool.not_false, eq_ii, ne_ii, lt_ii, gt_ii, le_ii, ge_ii, add_ii, sub_ii, shr1]
          simp only [sPar, aCons, aNil, liftR, Res.bind, o1, ey, o3, List.map_cons, List.map_nil, asgL, Pat.asg, Option.bind, asgR, List.set]
        · rw [hy2, ← hv]
          conv => rhs; rw [← hdm, h1, Nat.pow_add, Nat.pow_mul, Nat.pow_two, Nat.pow_one]
          rw [Nat.mul_assoc, Nat.mul_comm x]
        · rw [show s * (w + e) = s * e + s * w by rw [Nat.mul_add, Nat.add_comm], Nat.pow_add]
          exact Nat.mul_le_mul hf hx
        · have : 2 * w * (m / 2) + w = w * m := by
            conv => rhs; rw [← hdm, h1, Nat.mul_add, Nat.mul_one, ← Nat.mul_assoc, Nat.mul_comm w 2]
          omega
      · have h0 : m % 2 = 0 := by omega
        have h0' : ¬ ((m % 2 : Nat) : Int) = 1 := by omega
        refine ⟨m / 2, [some (.int (y : Int)), some (.int ((m / 2 : Nat) : Int)), some (.int (f : Int))], M', by omega, ?_, rfl, y, f, 2 * w, e, rfl, ?_, hy3, hf, ?_, by omega⟩
        · have o1 : eIf (tB (e2 eqD (e2 andD (eVar 1) (eC (.int 1))) (eC (.int 1)))) (e2 mulI (eVar 2) (eVar 0)) (eVar 2) [some (.int (x : Int)), some (.int (m : Int)), some (.int (f : Int))] M' = .ok (.int (f : Int)) M' := by
            simp only [runB, sSeq, sIf, sNil, sPass, sCont, sPar, sAsg, sRet, sExpr, liftR, tAndM, tOrM, tNotM, tB, tTr, truD, e2, e1, eChain, eVar, eC, eL, eIf, eAnd, eOr, eNot, eTup, eLst, eBits, aCons, aNil, Res.bind, asgR, asgL, Pat.asg, List.map_cons, List.map_nil, List.set, Option.bind, Option.bind_some, List.getElem?_cons_succ, List.getElem?_cons_zero, List.length_cons, List.length_nil, List.replicate_succ, List.replicate_zero, List.cons_append, List.nil_append, Nat.reduceAdd, Nat.reduceSub, Nat.reduceLeDiff, Nat.zero_add, decide_true, decide_false, if_true, if_false, Bool.false_eq_true, Bool.not_true, Bool.not_false, eq_ii, ne_ii, lt_ii, gt_ii, le_ii, ge_ii, add_ii, sub_ii, and1, h0']
          have o3 : e2 shrD (eVar 1) (eC (.int 1)) [some (.int (x : Int)), some (.int (m : Int)), some (.int (f : Int))] M' = .ok (.int ((m / 2 : Nat) : Int)) M' := by
            simp only [runB, sSeq, sIf, sNil, sPass, sCont, sPar, sAsg, sRet, sExpr, liftR, tAndM, tOrM, tNotM, tB, tTr, truD, e2, e1, eChain, eVar, eC, eL, eIf, eAnd, eOr, eNot, eTup, eLst, eBits, aCons, aNil, Res.bind, asgR, asgL, Pat.asg, List.map_cons, List.map_nil, List.set, Option.bind, Option.bind_some, List.getElem?_cons_succ, List.getElem?_cons_zero, List.length_cons, List.length_nil, List.replicate_succ, List.replicate_zero, List.cons_append, List.nil_append, Nat.reduceAdd, Nat.reduceSub, Nat.reduceLeDiff, Nat.zero_add, decide_true, decide_false, if_true, if_false, Bool.false_eq_true, Bool.not_true, Bool.not_false, eq_ii, ne_ii, lt_ii, gt_ii, le_ii, ge_ii, add_ii, sub_ii, shr1]
          simp only [sPar, aCons, aNil, liftR, Res.bind, o1, ey, o3, List.map_cons, List.map_nil, asgL, Pat.asg, Option.bind, asgR, List.set]
        · rw [hy2, ← hv]
          conv => rhs; rw [← hdm, h0, Nat.add_zero, Nat.pow_mul, Nat.pow_two]
        · have : 2 * w * (m / 2) = w * m := by
            conv => rhs; rw [← hdm, h0, Nat.add_zero, ← Nat.mul_assoc, Nat.mul_comm w 2]
          omega
  unfold m_law_pow b_law_pow
  have fin := key (fun r => (match (match r with | .nx ρ' M' => sRet (eVar 2) ρ' M' | r => r) with | .rt d M' => Res.ok d M' | .nx _ M' => .ok .non M' | .exc e _ M' => .exc e M' | _ => .bad) = .ok (.int ((a ^ n : Nat) : Int)) M) (fun x => by simp only [runB, sSeq, sIf, sNil, sPass, sCont, sPar, sAsg, sRet, sExpr, liftR, tAndM, tOrM, tNotM, tB, tTr, truD, e2, e1, eChain, eVar, eC, eL, eIf, eAnd, eOr, eNot, eTup, eLst, eBits, aCons, aNil, Res.bind, asgR, asgL, Pat.asg, List.map_cons, List.map_nil, List.set, Option.bind, Option.bind_some, List.getElem?_cons_succ, List.getElem?_cons_zero, List.length_cons, List.length_nil, List.replicate_succ, List.replicate_zero, List.cons_append, List.nil_append, Nat.reduceAdd, Nat.reduceSub, Nat.reduceLeDiff, Nat.zero_add, decide_true, decide_false, if_true, if_false, Bool.false_eq_true, Bool.not_true, Bool.not_false, eq_ii, ne_ii, lt_ii, gt_ii, le_ii, ge_ii, add_ii, sub_ii])
  rw [← fin]
  simp only [runB, sSeq, sIf, sNil, sPass, sCont, sPar, sAsg, sRet, sExpr, liftR, tAndM, tOrM, tNotM, tB, tTr, truD, e2, e1, eChain, eVar, eC, eL, eIf, eAnd, eOr, eNot, eTup, eLst, eBits, aCons, aNil, Res.bind, asgR, asgL, Pat.asg, List.map_cons, List.map_nil, List.set, Option.bind, Option.bind_some, List.getElem?_cons_succ, List.getElem?_cons_zero, List.length_cons, List.length_nil, List.replicate_succ, List.replicate_zero, List.cons_append, List.nil_append, Nat.reduceAdd, Nat.reduceSub, Nat.reduceLeDiff, Nat.zero_add, decide_true, decide_false, if_true, if_false, Bool.false_eq_true, Bool.not_true, Bool.not_false, eq_ii, ne_ii, lt_ii, gt_ii, le_ii, ge_ii, add_ii, sub_ii, int_i, asgR]
  try rfl
end K02
namespace K02
open PySem PySem.Spec DL NT
theorem or_nn (a b : Nat) : Builtin.bitOr (a : Int) (b : Int) = ((a ||| b : Nat) : Int) := by
  have h1 : ∀ x : Nat, Builtin.bitNot (x : Int) = -(x : Int) - 1 := fun x => by
    unfold Builtin.bitNot
    omega
  unfold Builtin.bitOr Builtin.bitAnd
  have n1 : ∀ x : Nat, decide (0 ≤ Builtin.bitNot (x : Int)) = false := fun x => decide_eq_false (by rw [h1]; omega)
  have n2 : ∀ x : Nat, Builtin.bitNot (Builtin.bitNot (x : Int)) = (x : Int) := fun x => by
    unfold Builtin.bitNot
    omega
  rw [n1, n1]
  dsimp only
  rw [n2, n2, n2]
  rfl
theorem or_pow (f k : Nat) (h : 2 ^ (k + 1) ∣ f) (M : Mem) : orD (.int (f : Int)) (.int ((2 ^ k : Nat) : Int)) M = .ok (.int ((f + 2 ^ k : Nat) : Int)) M := by
  show Res.ok (D.int (Builtin.bitOr _ _)) M = _
  rw [or_nn]
  obtain ⟨t, rfl⟩ := h
  rw [← Nat.two_pow_add_eq_or_of_lt (i := k + 1) (b := 2 ^ k) (by rw [Nat.pow_succ]; have := Nat.pow_pos (n := k) (show 0 < 2 by decide); omega)]
theorem shl1 (k : Nat) (h : k ≤ 1000000) (M : Mem) : shlD (.int 1) (.int (k : Int)) M = .ok (.int ((2 ^ k : Nat) : Int)) M := by
  show (if powOk 1 (k : Int) = true then Res.ok (D.int (1 * 2 ^ ((k : Int)).toNat)) M else .bad) = _
  rw [if_pos (by
    unfold powOk
    rw [decide_eq_true (show (0 : Int) ≤ (k : Int) by omega), decide_eq_true (show (k : Int) ≤ 1000000 by omega)]
    decide), Int.one_mul, Int.toNat_natCast, Int.natCast_pow]
  rfl
theorem ev_law_int_root (n p : Nat) (M : Mem) (hn : 0 < n) (hp : 0 < p) (hp2 : p < 100000) (bn : Builtin.Int.intBits (n : Int) ≤ 5000) :
    ∃ t : Int, m_law_int_root [.int (n : Int), .int (p : Int)] M = .ok (.int t) M ∧ ((∃ r : Nat, 0 < r ∧ t = (r : Int) ∧ r ^ p = n) ∨ (t = -1 ∧ ¬ Pw p n)) := by
  generalize hB : Builtin.Int.intBits (n : Int) = B at bn
  have hnB : n < 2 ^ B := by rw [← hB]; exact lt_bits n
  have hsz : B < (B / p + 1) * p ∧ (B / p + 1) * p ≤ B + p := by
    have k1 := Nat.lt_div_mul_add (a := B) hp
    have k2 := Nat.div_mul_le_self B p
    rw [Nat.add_mul, Nat.one_mul]
    exact ⟨k1, by omega⟩
  have hle := Nat.div_le_self B p
  have dB := div_nn (a := B) (b := p) M hp (by
    have : p.log2 < 17 := (Nat.log2_lt (by omega)).mpr (by omega)
    omega)
  generalize B / p = q at *
  have key : ∀ (R : SR → Prop), (∀ (f : Nat) (z : Option D), f ≤ 2 ^ (q + 1) → f ^ p ≤ n → n < (f + 1) ^ p → R (.nx [some (.int (n : Int)), some (.int (p : Int)), some (.int (f : Int)), z] M)) →
      R (forL (.nm 3) (sIf (tB (e2 leD (eL m_law_pow (aCons (e2 orD (eVar 2) (e2 shlD (eC (.int 1)) (eVar 3))) (aCons (eVar 1) aNil))) (eVar 0))) (sAsg (.nm 2) (e2 orD (eVar 2) (e2 shlD (eC (.int 1)) (eVar 3)))) sNil) (rangeD 0 (q + 1)).reverse [some (.int (n : Int)), some (.int (p : Int)), some (.int 0), none] M) := by
    intro R hR
    refine down_rule (fun k ρ M' => M' = M ∧ ∃ (f : Nat) (z : Option D), ρ = [some (.int (n : Int)), some (.int (p : Int)), some (.int (f : Int)), z] ∧ k ≤ q + 1 ∧ 2 ^ k ∣ f ∧ f + 2 ^ k ≤ 2 ^ (q + 1) ∧ f ^ p ≤ n ∧ n < (f + 2 ^ k) ^ p) R ?_ ?_ (q + 1) _ M ⟨rfl, 0, none, rfl, Nat.le_refl _, Nat.dvd_zero _, by omega, by rw [Nat.zero_pow hp]; omega, by
      rw [Nat.zero_add, ← Nat.pow_mul]
      exact Nat.lt_of_lt_of_le hnB (Nat.pow_le_pow_right (by decide) (by omega))⟩
    · rintro k ρ M' ⟨rfl, f, z, rfl, hk, hd, hf, h1, h2⟩
      have e2k : 2 ^ (k + 1) = 2 ^ k + 2 ^ k := by rw [Nat.pow_succ]; omega
      have o := or_pow f k hd M'
      have sh := shl1 k (by omega) M'
      have wp := ev_law_pow (f + 2 ^ k) p (q + 1) M' (by omega) (by omega) hp2
      refine ⟨[some (.int (n : Int)), some (.int (p : Int)), some (.int (f : Int)), some (.int (k : Int))], rfl, ?_⟩
      by_cases hc : (f + 2 ^ k) ^ p ≤ n
      · have hc' : (((f + 2 ^ k) ^ p : Nat) : Int) ≤ (n : Int) := Int.ofNat_le.mpr hc
        refine ⟨[some (.int (n : Int)), some (.int (p : Int)), some (.int ((f + 2 ^ k : Nat) : Int)), some (.int (k : Int))], M', ?_, rfl, f + 2 ^ k, _, rfl, by omega, ?_, by omega, hc, by rw [Nat.add_assoc, ← e2k]; exact h2⟩
        · simp only [runB, sSeq, sIf, sNil, sPass, sCont, sPar, sAsg, sRet, sExpr, liftR, tAndM, tOrM, tNotM, tB, tTr, truD, e2, e1, eChain, eVar, eC, eL, eIf, eAnd, eOr, eNot, eTup, eLst, eBits, aCons, aNil, Res.bind, asgR, asgL, Pat.asg, List.map_cons, List.map_nil, List.set, Option.bind, Option.bind_some, List.getElem?_cons_succ, List.getElem?_cons_zero, List.length_cons, List.length_nil, List.replicate_succ, List.replicate_zero, List.cons_append, List.nil_append, Nat.reduceAdd, Nat.reduceSub, Nat.reduceLeDiff, Nat.zero_add, decide_true, decide_false, if_true, if_false, Bool.false_eq_true, Bool.not_true, Bool.not_false, eq_ii, ne_ii, lt_ii, gt_ii, le_ii, ge_ii, add_ii, sub_ii, sh, o, wp, hc', asgR]
        · exact Nat.dvd_add (Nat.dvd_trans (Nat.pow_dvd_pow 2 (by omega)) hd) (Nat.dvd_refl _)
      · have hc' : ¬ (((f + 2 ^ k) ^ p : Nat) : Int) ≤ (n : Int) := fun z => hc (Int.ofNat_le.mp z)
        refine ⟨[some (.int (n : Int)), some (.int (p : Int)), some (.int (f : Int)), some (.int (k : Int))], M', ?_, rfl, f, _, rfl, by omega, Nat.dvd_trans (Nat.pow_dvd_pow 2 (by omega)) hd, by omega, h1, by omega⟩
        simp only [runB, sSeq, sIf, sNil, sPass, sCont, sPar, sAsg, sRet, sExpr, liftR, tAndM, tOrM, tNotM, tB, tTr, truD, e2, e1, eChain, eVar, eC, eL, eIf, eAnd, eOr, eNot, eTup, eLst, eBits, aCons, aNil, Res.bind, asgR, asgL, Pat.asg, List.map_cons, List.map_nil, List.set, Option.bind, Option.bind_some, List.getElem?_cons_succ, List.getElem?_cons_zero, List.length_cons, List.length_nil, List.replicate_succ, List.replicate_zero, List.cons_append, List.nil_append, Nat.reduceAdd, Nat.reduceSub, Nat.reduceLeDiff, Nat.zero_add, decide_true, decide_false, if_true, if_false, Bool.false_eq_true, Bool.not_true, Bool.not_false, eq_ii, ne_ii, lt_ii, gt_ii, le_ii, ge_ii, add_ii, sub_ii, sh, o, wp, hc', asgR]
    · rintro ρ M' ⟨rfl, f, z, rfl, hk, hd, hf, h1, h2⟩
      exact hR f z (by omega) h1 (by rw [Nat.pow_zero] at h2; exact h2)
  have fin := key (fun r => ∃ t : Int, (match (match r with | .nx ρ' M' => sRet (eIf (tB (e2 eqD (eL m_law_pow (aCons (eVar 2) (aCons (eVar 1) aNil))) (eVar 0))) (eVar 2) (e1 negD (eC (.int 1)))) ρ' M' | r => r) with | .rt d M' => Res.ok d M' | .nx _ M' => .ok .non M' | .exc e _ M' => .exc e M' | _ => .bad) = .ok (.int t) M ∧ ((∃ r : Nat, 0 < r ∧ t = (r : Int) ∧ r ^ p = n) ∨ (t = -1 ∧ ¬ Pw p n))) (fun f z hf h1 h2 => by
    have wp := ev_law_pow f p (q + 1) M hf (by omega) hp2
    by_cases hc : f ^ p = n
    · have hc' : ((f ^ p : Nat) : Int) = (n : Int) := Int.ofNat_inj.mpr hc
      refine ⟨(f : Int), by simp only [runB, sSeq, sIf, sNil, sPass, sCont, sPar, sAsg, sRet, sExpr, liftR, tAndM, tOrM, tNotM, tB, tTr, truD, e2, e1, eChain, eVar, eC, eL, eIf, eAnd, eOr, eNot, eTup, eLst, eBits, aCons, aNil, Res.bind, asgR, asgL, Pat.asg, List.map_cons, List.map_nil, List.set, Option.bind, Option.bind_some, List.getElem?_cons_succ, List.getElem?_cons_zero, List.length_cons, List.length_nil, List.replicate_succ, List.replicate_zero, List.cons_append, List.nil_append, Nat.reduceAdd, Nat.reduceSub, Nat.reduceLeDiff, Nat.zero_add, decide_true, decide_false, if_true, if_false, Bool.false_eq_true, Bool.not_true, Bool.not_false, eq_ii, ne_ii, lt_ii, gt_ii, le_ii, ge_ii, add_ii, sub_ii, wp, hc'], .inl ⟨f, Nat.pos_of_ne_zero fun z => ?_, rfl, hc⟩⟩
      rw [z, Nat.zero_pow hp] at hc
      omega
    · have hc' : ¬ ((f ^ p : Nat) : Int) = (n : Int) := fun z => hc (Int.ofNat_inj.mp z)
      refine ⟨-1, by simp only [runB, sSeq, sIf, sNil, sPass, sCont, sPar, sAsg, sRet, sExpr, liftR, tAndM, tOrM, tNotM, tB, tTr, truD, e2, e1, eChain, eVar, eC, eL, eIf, eAnd, eOr, eNot, eTup, eLst, eBits, aCons, aNil, Res.bind, asgR, asgL, Pat.asg, List.map_cons, List.map_nil, List.set, Option.bind, Option.bind_some, List.getElem?_cons_succ, List.getElem?_cons_zero, List.length_cons, List.length_nil, List.replicate_succ, List.replicate_zero, List.cons_append, List.nil_append, Nat.reduceAdd, Nat.reduceSub, Nat.reduceLeDiff, Nat.zero_add, decide_true, decide_false, if_true, if_false, Bool.false_eq_true, Bool.not_true, Bool.not_false, eq_ii, ne_ii, lt_ii, gt_ii, le_ii, ge_ii, add_ii, sub_ii, wp, hc', negD], .inr ⟨rfl, fun w => hc ((root_pw (by omega) h1 h2).mp w)⟩⟩)
  obtain ⟨t, e, h⟩ := fin
  refine ⟨t, ?_, h⟩
  rw [← e]
  have lr : eListRg (e2 addD (e2 divD (eBits (eVar 0)) (eVar 1)) (eC (.int 1))) [some (.int (n : Int)), some (.int (p : Int)), some (.int 0), none] M = .ok (.lst (rangeD 0 (q + 1))) M := by
    unfold eListRg
    simp only [runB, sSeq, sIf, sNil, sPass, sCont, sPar, sAsg, sRet, sExpr, liftR, tAndM, tOrM, tNotM, tB, tTr, truD, e2, e1, eChain, eVar, eC, eL, eIf, eAnd, eOr, eNot, eTup, eLst, eBits, aCons, aNil, Res.bind, asgR, asgL, Pat.asg, List.map_cons, List.map_nil, List.set, Option.bind, Option.bind_some, List.getElem?_cons_succ, List.getElem?_cons_zero, List.length_cons, List.length_nil, List.replicate_succ, List.replicate_zero, List.cons_append, List.nil_append, Nat.reduceAdd, Nat.reduceSub, Nat.reduceLeDiff, Nat.zero_add, decide_true, decide_false, if_true, if_false, Bool.false_eq_true, Bool.not_true, Bool.not_false, eq_ii, ne_ii, lt_ii, gt_ii, le_ii, ge_ii, add_ii, sub_ii, hB, dB]
    rw [if_pos (by omega)]
    rfl
  unfold m_law_int_root b_law_int_root
  simp only [runB, sSeq, sAsg, eC, liftR, Pat.asg, asgR, List.map_cons, List.map_nil, List.length_cons, List.length_nil, Nat.zero_add, Nat.reduceAdd, Nat.reduceSub, List.replicate_succ, List.replicate_zero, List.cons_append, List.nil_append, List.set, sFor, iSeq, DL.e1, lr, Res.bind, revD, seqOf]
  try rfl
end K02
namespace K02
open PySem PySem.Spec DL NT
theorem min_nn (a b : Nat) (M : Mem) : minD [.int (a : Int), .int (b : Int)] M = .ok (.int ((min a b : Nat) : Int)) M := by
  show (if true = true then Res.ok (D.int (if (b : Int) < (a : Int) then (b : Int) else (a : Int))) M else .bad) = _
  rw [if_pos rfl]
  by_cases h : b < a
  · rw [if_pos (by omega), show min a b = b by omega]
  · rw [if_neg (by omega), show min a b = a by omega]
abbrev vBody : SD := (sSeq (sAsg (.tp [(.nm 5), (.nm 6)]) (eIf (tB (e2 eqD (e2 modD (eL intD (aCons (eVar 2) aNil)) (eVar 3)) (eC (.int 0)))) (eTup (aCons (eL m_law_int_root (aCons (eVar 0) (aCons (eVar 3) aNil))) (aCons (eL m_law_int_root (aCons (eVar 1) (aCons (eVar 3) aNil))) aNil))) (eTup (aCons (e1 negD (eC (.int 1))) (aCons (e1 negD (eC (.int 1))) aNil))))) (sIf (tAndM (tB (e2 gtD (eVar 5) (eC (.int 0)))) (tB (e2 gtD (eVar 6) (eC (.int 0))))) (sPar [0, 1, 2] (aCons (eVar 5) (aCons (eVar 6) (aCons (e2 divD (eVar 2) (eVar 3)) aNil)))) sNil))
theorem run_vbody (x y z p : Nat) (u v w : Option D) (M : Mem) (hx : 0 < x) (hy : 0 < y) (hz : 0 < z) (hp : 2 ≤ p) (hp2 : p < 100000) (bx : Builtin.Int.intBits (x : Int) ≤ 5000) (by_ : Builtin.Int.intBits (y : Int) ≤ 5000) :
    ∃ (x' y' z' : Nat) (o1 o2 : Option D), vBody [some (.int (x : Int)), some (.int (y : Int)), some (.int (z : Int)), some (.int (p : Int)), u, v, w] M = .nx [some (.int (x' : Int)), some (.int (y' : Int)), some (.int (z' : Int)), some (.int (p : Int)), u, o1, o2] M ∧
      ((0 < x' ∧ 0 < y' ∧ 0 < z' ∧ x' ^ p = x ∧ y' ^ p = y ∧ z' * p = z) ∨ (x' = x ∧ y' = y ∧ z' = z ∧ ¬ (p ∣ z ∧ Pw p x ∧ Pw p y))) := by
  have md := mod_nn (a := z) (b := p) M (by omega)
  by_cases h0 : z % p = 0
  · have h0' : ((z % p : Nat) : Int) = 0 := by omega
    have hd : p ∣ z := Nat.dvd_of_mod_eq_zero h0
    obtain ⟨s, es, hs⟩ := ev_law_int_root x p M hx (by omega) hp2 bx
    obtain ⟨t, et, ht⟩ := ev_law_int_root y p M hy (by omega) hp2 by_
    rcases hs with ⟨r1, r2, rfl, r3⟩ | ⟨rfl, hs⟩
    · rcases ht with ⟨q1, q2, rfl, q3⟩ | ⟨rfl, ht⟩
      · have g1 : (0 : Int) < (r1 : Int) := by omega
        have g2 : (0 : Int) < (q1 : Int) := by omega
        have dv := div_nn (a := z) (b := p) M (by omega) (by
          have : p.log2 < 17 := (Nat.log2_lt (by omega)).mpr (by omega)
          omega)
        refine ⟨r1, q1, z / p, some (.int (r1 : Int)), some (.int (q1 : Int)), by simp only [runB, sSeq, sIf, sNil, sPass, sCont, sPar, sAsg, sRet, sExpr, liftR, tAndM, tOrM, tNotM, tB, tTr, truD, e2, e1, eChain, eVar, eC, eL, eIf, eAnd, eOr, eNot, eTup, eLst, eBits, aCons, aNil, Res.bind, asgR, asgL, Pat.asg, List.map_cons, List.map_nil, List.set, Option.bind, Option.bind_some, List.getElem?_cons_succ, List.getElem?_cons_zero, List.length_cons, List.length_nil, List.replicate_succ, List.replicate_zero, List.cons_append, List.nil_append, Nat.reduceAdd, Nat.reduceSub, Nat.reduceLeDiff, Nat.zero_add, decide_true, decide_false, if_true, if_false, Bool.false_eq_true, Bool.not_true, Bool.not_false, eq_ii, ne_ii, lt_ii, gt_ii, le_ii, ge_ii, add_ii, sub_ii, int_i, md, h0', es, et, asgR, g1, g2, dv], .inl ⟨r2, q2, Nat.div_pos (Nat.le_of_dvd hz hd) (by omega), r3, q3, Nat.div_mul_cancel hd⟩⟩
      · have g1 : (0 : Int) < (r1 : Int) := by omega
        have g2 : ¬ (0 : Int) < (-1 : Int) := by decide
        exact ⟨x, y, z, some (.int (r1 : Int)), some (.int (-1)), by simp only [runB, sSeq, sIf, sNil, sPass, sCont, sPar, sAsg, sRet, sExpr, liftR, tAndM, tOrM, tNotM, tB, tTr, truD, e2, e1, eChain, eVar, eC, eL, eIf, eAnd, eOr, eNot, eTup, eLst, eBits, aCons, aNil, Res.bind, asgR, asgL, Pat.asg, List.map_cons, List.map_nil, List.set, Option.bind, Option.bind_some, List.getElem?_cons_succ, List.getElem?_cons_zero, List.length_cons, List.length_nil, List.replicate_succ, List.replicate_zero, List.cons_append, List.nil_append, Nat.reduceAdd, Nat.reduceSub, Nat.reduceLeDiff, Nat.zero_add, decide_true, decide_false, if_true, if_false, Bool.false_eq_true, Bool.not_true, Bool.not_false, eq_ii, ne_ii, lt_ii, gt_ii, le_ii, ge_ii, add_ii, sub_ii, int_i, md, h0', es, et, asgR, g1, g2], .inr ⟨rfl, rfl, rfl, fun q => ht q.2.2⟩⟩
    · have g2 : ¬ (0 : Int) < (-1 : Int) := by decide
      exact ⟨x, y, z, some (.int (-1)), some (.int t), by simp only [runB, sSeq, sIf, sNil, sPass, sCont, sPar, sAsg, sRet, sExpr, liftR, tAndM, tOrM, tNotM, tB, tTr, truD, e2, e1, eChain, eVar, eC, eL, eIf, eAnd, eOr, eNot, eTup, eLst, eBits, aCons, aNil, Res.bind, asgR, asgL, Pat.asg, List.map_cons, List.map_nil, List.set, Option.bind, Option.bind_some, List.getElem?_cons_succ, List.getElem?_cons_zero, List.length_cons, List.length_nil, List.replicate_succ, List.replicate_zero, List.cons_append, List.nil_append, Nat.reduceAdd, Nat.reduceSub, Nat.reduceLeDiff, Nat.zero_add, decide_true, decide_false, if_true, if_false, Bool.false_eq_true, Bool.not_true, Bool.not_false, eq_ii, ne_ii, lt_ii, gt_ii, le_ii, ge_ii, add_ii, sub_ii, int_i, md, h0', es, et, asgR, g2], .inr ⟨rfl, rfl, rfl, fun q => hs q.2.1⟩⟩
  · have h0' : ¬ ((z % p : Nat) : Int) = 0 := by omega
    have g2 : ¬ (0 : Int) < (-1 : Int) := by decide
    exact ⟨x, y, z, some (.int (-1)), some (.int (-1)), by simp only [runB, sSeq, sIf, sNil, sPass, sCont, sPar, sAsg, sRet, sExpr, liftR, tAndM, tOrM, tNotM, tB, tTr, truD, e2, e1, eChain, eVar, eC, eL, eIf, eAnd, eOr, eNot, eTup, eLst, eBits, aCons, aNil, Res.bind, asgR, asgL, Pat.asg, List.map_cons, List.map_nil, List.set, Option.bind, Option.bind_some, List.getElem?_cons_succ, List.getElem?_cons_zero, List.length_cons, List.length_nil, List.replicate_succ, List.replicate_zero, List.cons_append, List.nil_append, Nat.reduceAdd, Nat.reduceSub, Nat.reduceLeDiff, Nat.zero_add, decide_true, decide_false, if_true, if_false, Bool.false_eq_true, Bool.not_true, Bool.not_false, eq_ii, ne_ii, lt_ii, gt_ii, le_ii, ge_ii, add_ii, sub_ii, int_i, md, h0', asgR, g2, negD], .inr ⟨rfl, rfl, rfl, fun q => h0 (Nat.mod_eq_zero_of_dvd q.1)⟩⟩
theorem pw_up {p q x x' : Nat} (h : x' ^ p = x) (w : Pw q x') : Pw q x := by
  obtain ⟨a, rfl⟩ := w
  exact ⟨a ^ p, by rw [← h, ← Nat.pow_mul, ← Nat.pow_mul, Nat.mul_comm]⟩
/-- nine tries with one p -/
theorem run_nine (x y z p : Nat) (u v w : Option D) (M : Mem) (hx : 0 < x) (hy : 0 < y) (hz : 0 < z) (hz2 : z < 1024) (hp : 2 ≤ p) (hp2 : p < 100000) (bx : Builtin.Int.intBits (x : Int) ≤ 5000) (by_ : Builtin.Int.intBits (y : Int) ≤ 5000) :
    ∃ (x' y' z' e : Nat) (o0 o1 o2 : Option D), sFor (iRange1 (aCons (eC (.int 9)) aNil)) (.nm 4) vBody [some (.int (x : Int)), some (.int (y : Int)), some (.int (z : Int)), some (.int (p : Int)), u, v, w] M = .nx [some (.int (x' : Int)), some (.int (y' : Int)), some (.int (z' : Int)), some (.int (p : Int)), o0, o1, o2] M ∧
      0 < x' ∧ 0 < y' ∧ 0 < z' ∧ 0 < e ∧ x' ^ e = x ∧ y' ^ e = y ∧ z' * e = z ∧ ¬ (p ∣ z' ∧ Pw p x' ∧ Pw p y') := by
  have run := range_rule (p := .nm 4) (b := vBody) 0 9 (fun i ρ M' => M' = M ∧ ∃ (x' y' z' e : Nat) (o0 o1 o2 : Option D), ρ = [some (.int (x' : Int)), some (.int (y' : Int)), some (.int (z' : Int)), some (.int (p : Int)), o0, o1, o2] ∧ 0 < x' ∧ 0 < y' ∧ 0 < z' ∧ 0 < e ∧ x' ^ e = x ∧ y' ^ e = y ∧ z' * e = z ∧ (¬ (p ∣ z' ∧ Pw p x' ∧ Pw p y') ∨ z' * p ^ i ≤ z))
    (fun r => ∃ (x' y' z' e : Nat) (o0 o1 o2 : Option D), r = .nx [some (.int (x' : Int)), some (.int (y' : Int)), some (.int (z' : Int)), some (.int (p : Int)), o0, o1, o2] M ∧ 0 < x' ∧ 0 < y' ∧ 0 < z' ∧ 0 < e ∧ x' ^ e = x ∧ y' ^ e = y ∧ z' * e = z ∧ ¬ (p ∣ z' ∧ Pw p x' ∧ Pw p y')) ?_ ?_
    [some (.int (x : Int)), some (.int (y : Int)), some (.int (z : Int)), some (.int (p : Int)), u, v, w] M ⟨rfl, x, y, z, 1, u, v, w, rfl, hx, hy, hz, by omega, by simp, by simp, by simp, .inr (by simp)⟩
  · obtain ⟨x', y', z', e, o0, o1, o2, hr, rest⟩ := run
    refine ⟨x', y', z', e, o0, o1, o2, ?_, rest⟩
    rw [← hr]
    rfl
  · rintro i ρ M' hi ⟨rfl, x', y', z', e, o0, o1, o2, rfl, k1, k2, k3, k4, k5, k6, k7, k8⟩
    have hx' : x' ≤ x := by rw [← k5]; exact le_pow_self k4 k1
    have hy' : y' ≤ y := by rw [← k6]; exact le_pow_self k4 k2
    obtain ⟨x2, y2, z2, q1, q2, er, hr⟩ := run_vbody x' y' z' p (some (.int (0 + (i : Int)))) o1 o2 M' k1 k2 k3 hp hp2 (Nat.le_trans (bits_mono hx') bx) (Nat.le_trans (bits_mono hy') by_)
    refine ⟨_, rfl, .inl ⟨_, M', .inl er, rfl, x2, y2, z2, ?_⟩⟩
    rcases hr with ⟨a1, a2, a3, a4, a5, a6⟩ | ⟨rfl, rfl, rfl, hn⟩
    · refine ⟨p * e, _, _, _, rfl, a1, a2, a3, Nat.mul_pos (by omega) k4, by rw [Nat.pow_mul, a4, k5], by rw [Nat.pow_mul, a5, k6], by rw [← Nat.mul_assoc, a6, k7], .inr ?_⟩
      rcases k8 with k8 | k8
      · exact absurd ⟨⟨z2, by rw [← a6, Nat.mul_comm]⟩, ⟨x2, a4⟩, ⟨y2, a5⟩⟩ k8
      · rw [Nat.pow_succ, Nat.mul_comm (p ^ i), ← Nat.mul_assoc, a6]
        exact k8
    · exact ⟨e, _, _, _, rfl, k1, k2, k3, k4, k5, k6, k7, .inl hn⟩
  · rintro ρ M' ⟨rfl, x', y', z', e, o0, o1, o2, rfl, k1, k2, k3, k4, k5, k6, k7, k8⟩
    refine ⟨x', y', z', e, o0, o1, o2, rfl, k1, k2, k3, k4, k5, k6, k7, ?_⟩
    rcases k8 with k8 | k8
    · exact k8
    · rintro ⟨h1, _, _⟩
      have h2 := Nat.le_of_dvd k3 h1
      have h3 : 2 ^ 9 ≤ p ^ 9 := Nat.pow_le_pow_left hp 9
      have h4 : 2 * 2 ^ 9 ≤ z' * p ^ 9 := Nat.mul_le_mul (by omega) h3
      omega
theorem lo_mul {a e : Nat} (h : 0 < e) : a ≤ a * e := Nat.le_mul_of_pos_right a h
/-- the law's own root in lowest terms -/
theorem ev_law_value (n d k : Nat) (M : Mem) (hn : 0 < n) (hd : 0 < d) (hk : 0 < k) (hk2 : k < 1024) (bn : Builtin.Int.intBits (n : Int) ≤ 5000) (bd : Builtin.Int.intBits (d : Int) ≤ 5000) :
    ∃ x y z : Nat, m_law_value [.int (n : Int), .int (d : Int), .int (k : Int)] M = .ok (.tup [.int (x : Int), .int (y : Int), .int (z : Int)]) M ∧ Low (n / Nat.gcd n d) (d / Nat.gcd n d) k x y z := by
  have hg : 0 < Nat.gcd n d := Nat.gcd_pos_of_pos_left _ hn
  have hgn := Nat.le_of_dvd hn (Nat.gcd_dvd_left n d)
  have hgd := Nat.le_of_dvd hd (Nat.gcd_dvd_right n d)
  have low := ev_law_low (n : Int) d M hd (by rw [Int.natAbs_natCast]; exact bn) bd
  rw [Int.natAbs_natCast, Int.fdiv_eq_ediv_of_nonneg _ (by omega), ← Int.natCast_ediv] at low
  have hn' : 0 < n / Nat.gcd n d := Nat.div_pos hgn hg
  have hd' : 0 < d / Nat.gcd n d := Nat.div_pos hgd hg
  have bn' := Nat.le_trans (bits_mono (Nat.div_le_self n (Nat.gcd n d))) bn
  have bd' := Nat.le_trans (bits_mono (Nat.div_le_self d (Nat.gcd n d))) bd
  generalize n / Nat.gcd n d = n1 at *
  generalize d / Nat.gcd n d = d1 at *
  by_cases h11 : n1 = 1 ∧ d1 = 1
  · obtain ⟨rfl, rfl⟩ := h11
    refine ⟨1, 1, 1, ?_, by omega, by omega, by omega, red_one, k, hk, Nat.one_pow k, Nat.one_pow k, Nat.one_mul k⟩
    have e1 : (((1 : Nat) : Int) = 1) := rfl
    unfold m_law_value b_law_value
    simp only [runB, sSeq, sIf, sNil, sPass, sCont, sPar, sAsg, sRet, sExpr, liftR, tAndM, tOrM, tNotM, tB, tTr, truD, e2, e1, eChain, eVar, eC, eL, eIf, eAnd, eOr, eNot, eTup, eLst, eBits, aCons, aNil, Res.bind, asgR, asgL, Pat.asg, List.map_cons, List.map_nil, List.set, Option.bind, Option.bind_some, List.getElem?_cons_succ, List.getElem?_cons_zero, List.length_cons, List.length_nil, List.replicate_succ, List.replicate_zero, List.cons_append, List.nil_append, Nat.reduceAdd, Nat.reduceSub, Nat.reduceLeDiff, Nat.zero_add, decide_true, decide_false, if_true, if_false, Bool.false_eq_true, Bool.not_true, Bool.not_false, eq_ii, ne_ii, lt_ii, gt_ii, le_ii, ge_ii, add_ii, sub_ii, low, asgR, e1]
  · have c1 : tAndM (tB (e2 eqD (eVar 0) (eC (.int 1)))) (tB (e2 eqD (eVar 1) (eC (.int 1)))) [some (.int (n1 : Int)), some (.int (d1 : Int)), some (.int (k : Int)), none, none, none, none] M = .ok false M := by
      by_cases h1 : n1 = 1
      · have h2 : ¬ (d1 : Int) = 1 := fun z => h11 ⟨h1, by omega⟩
        have h1' : (n1 : Int) = 1 := by omega
        simp only [runB, sSeq, sIf, sNil, sPass, sCont, sPar, sAsg, sRet, sExpr, liftR, tAndM, tOrM, tNotM, tB, tTr, truD, e2, e1, eChain, eVar, eC, eL, eIf, eAnd, eOr, eNot, eTup, eLst, eBits, aCons, aNil, Res.bind, asgR, asgL, Pat.asg, List.map_cons, List.map_nil, List.set, Option.bind, Option.bind_some, List.getElem?_cons_succ, List.getElem?_cons_zero, List.length_cons, List.length_nil, List.replicate_succ, List.replicate_zero, List.cons_append, List.nil_append, Nat.reduceAdd, Nat.reduceSub, Nat.reduceLeDiff, Nat.zero_add, decide_true, decide_false, if_true, if_false, Bool.false_eq_true, Bool.not_true, Bool.not_false, eq_ii, ne_ii, lt_ii, gt_ii, le_ii, ge_ii, add_ii, sub_ii, h1', h2]
      · have h1' : ¬ (n1 : Int) = 1 := by omega
        simp only [runB, sSeq, sIf, sNil, sPass, sCont, sPar, sAsg, sRet, sExpr, liftR, tAndM, tOrM, tNotM, tB, tTr, truD, e2, e1, eChain, eVar, eC, eL, eIf, eAnd, eOr, eNot, eTup, eLst, eBits, aCons, aNil, Res.bind, asgR, asgL, Pat.asg, List.map_cons, List.map_nil, List.set, Option.bind, Option.bind_some, List.getElem?_cons_succ, List.getElem?_cons_zero, List.length_cons, List.length_nil, List.replicate_succ, List.replicate_zero, List.cons_append, List.nil_append, Nat.reduceAdd, Nat.reduceSub, Nat.reduceLeDiff, Nat.zero_add, decide_true, decide_false, if_true, if_false, Bool.false_eq_true, Bool.not_true, Bool.not_false, eq_ii, ne_ii, lt_ii, gt_ii, le_ii, ge_ii, add_ii, sub_ii, h1']
    generalize hB : max (Builtin.Int.intBits (n1 : Int)) (Builtin.Int.intBits (d1 : Int)) = B
    have hB2 : B ≤ 5000 := by omega
    have hnB : n1 < 2 ^ B := Nat.lt_of_lt_of_le (lt_bits n1) (Nat.pow_le_pow_right (by decide) (by omega))
    have hdB : d1 < 2 ^ B := Nat.lt_of_lt_of_le (lt_bits d1) (Nat.pow_le_pow_right (by decide) (by omega))
    have run := range_rule (p := .nm 3) (b := sFor (iRange1 (aCons (eC (.int 9)) aNil)) (.nm 4) vBody) 2 (min k B + 1 - 2) (fun i ρ M' => M' = M ∧ ∃ (x y z e : Nat) (o0 o1 o2 o3 : Option D), ρ = [some (.int (x : Int)), some (.int (y : Int)), some (.int (z : Int)), o0, o1, o2, o3] ∧ 0 < x ∧ 0 < y ∧ 0 < z ∧ 0 < e ∧ x ^ e = n1 ∧ y ^ e = d1 ∧ z * e = k ∧ ∀ q, 2 ≤ q → q < 2 + i → ¬ (q ∣ z ∧ Pw q x ∧ Pw q y))
      (fun r => ∃ (x y z : Nat) (o0 o1 o2 o3 : Option D), r = .nx [some (.int (x : Int)), some (.int (y : Int)), some (.int (z : Int)), o0, o1, o2, o3] M ∧ Low n1 d1 k x y z) ?_ ?_
      [some (.int (n1 : Int)), some (.int (d1 : Int)), some (.int (k : Int)), none, none, none, none] M ⟨rfl, n1, d1, k, 1, none, none, none, none, rfl, hn', hd', hk, by omega, by simp, by simp, by simp, fun q h1 h2 => by omega⟩
    · obtain ⟨x, y, z, o0, o1, o2, o3, hr, rest⟩ := run
      refine ⟨x, y, z, ?_, rest⟩
      have mx : maxD [.int (((Builtin.Int.intBits (n1 : Int) : Nat)) : Int), .int (((Builtin.Int.intBits (d1 : Int) : Nat)) : Int)] M = .ok (.int (B : Int)) M := by
        rw [max_nn, hB]
      have mn := min_nn k B M
      have ab : absD [.int (n1 : Int)] M = .ok (.int (n1 : Int)) M := by rw [abs_i, Int.natAbs_natCast]
      have s2 : small62 2 = true := by decide
      have sm : small62 (((min k B : Nat) : Int) + 1) = true := by
        unfold small62
        rw [decide_eq_true (by omega), decide_eq_true (by omega)]
        rfl
      have tn : ((((min k B : Nat) : Int) + 1) - 2).toNat = min k B + 1 - 2 := by omega
      have it : iRange2 (aCons (eC (.int 2)) (aCons (e2 addD (eL minD (aCons (eVar 2) (aCons (eL maxD (aCons (eBits (eL absD (aCons (eVar 0) aNil))) (aCons (eBits (eVar 1)) aNil))) aNil))) (eC (.int 1))) aNil)) [some (.int (n1 : Int)), some (.int (d1 : Int)), some (.int (k : Int)), none, none, none, none] M = .ok (rangeD 2 (min k B + 1 - 2)) M := by
        unfold iRange2
        simp only [runB, sSeq, sIf, sNil, sPass, sCont, sPar, sAsg, sRet, sExpr, liftR, tAndM, tOrM, tNotM, tB, tTr, truD, e2, e1, eChain, eVar, eC, eL, eIf, eAnd, eOr, eNot, eTup, eLst, eBits, aCons, aNil, Res.bind, asgR, asgL, Pat.asg, List.map_cons, List.map_nil, List.set, Option.bind, Option.bind_some, List.getElem?_cons_succ, List.getElem?_cons_zero, List.length_cons, List.length_nil, List.replicate_succ, List.replicate_zero, List.cons_append, List.nil_append, Nat.reduceAdd, Nat.reduceSub, Nat.reduceLeDiff, Nat.zero_add, decide_true, decide_false, if_true, if_false, Bool.false_eq_true, Bool.not_true, Bool.not_false, eq_ii, ne_ii, lt_ii, gt_ii, le_ii, ge_ii, add_ii, sub_ii, ab, mx, mn]
        rw [if_pos ⟨s2, sm⟩, tn]
      unfold m_law_value b_law_value
      have stp : sFor (iRange2 (aCons (eC (.int 2)) (aCons (e2 addD (eL minD (aCons (eVar 2) (aCons (eL maxD (aCons (eBits (eL absD (aCons (eVar 0) aNil))) (aCons (eBits (eVar 1)) aNil))) aNil))) (eC (.int 1))) aNil))) (.nm 3) (sFor (iRange1 (aCons (eC (.int 9)) aNil)) (.nm 4) vBody) [some (.int (n1 : Int)), some (.int (d1 : Int)), some (.int (k : Int)), none, none, none, none] M = .nx [some (.int (x : Int)), some (.int (y : Int)), some (.int (z : Int)), o0, o1, o2, o3] M := by
        rw [← hr]
        show liftR _ _ _ = _
        rw [it]
        rfl
      have fst : sAsg (.tp [(.nm 0), (.nm 1)]) (eL m_law_low (aCons (eVar 0) (aCons (eVar 1) aNil))) [some (.int (n : Int)), some (.int (d : Int)), some (.int (k : Int)), none, none, none, none] M = .nx [some (.int (n1 : Int)), some (.int (d1 : Int)), some (.int (k : Int)), none, none, none, none] M := by
        simp only [runB, sSeq, sIf, sNil, sPass, sCont, sPar, sAsg, sRet, sExpr, liftR, tAndM, tOrM, tNotM, tB, tTr, truD, e2, e1, eChain, eVar, eC, eL, eIf, eAnd, eOr, eNot, eTup, eLst, eBits, aCons, aNil, Res.bind, asgR, asgL, Pat.asg, List.map_cons, List.map_nil, List.set, Option.bind, Option.bind_some, List.getElem?_cons_succ, List.getElem?_cons_zero, List.length_cons, List.length_nil, List.replicate_succ, List.replicate_zero, List.cons_append, List.nil_append, Nat.reduceAdd, Nat.reduceSub, Nat.reduceLeDiff, Nat.zero_add, decide_true, decide_false, if_true, if_false, Bool.false_eq_true, Bool.not_true, Bool.not_false, eq_ii, ne_ii, lt_ii, gt_ii, le_ii, ge_ii, add_ii, sub_ii, low, asgR]
      have ret : sRet (eTup (aCons (eVar 0) (aCons (eVar 1) (aCons (eL intD (aCons (eVar 2) aNil)) aNil)))) [some (.int (x : Int)), some (.int (y : Int)), some (.int (z : Int)), o0, o1, o2, o3] M = .rt (.tup [.int (x : Int), .int (y : Int), .int (z : Int)]) M := by
        simp only [runB, sSeq, sIf, sNil, sPass, sCont, sPar, sAsg, sRet, sExpr, liftR, tAndM, tOrM, tNotM, tB, tTr, truD, e2, e1, eChain, eVar, eC, eL, eIf, eAnd, eOr, eNot, eTup, eLst, eBits, aCons, aNil, Res.bind, asgR, asgL, Pat.asg, List.map_cons, List.map_nil, List.set, Option.bind, Option.bind_some, List.getElem?_cons_succ, List.getElem?_cons_zero, List.length_cons, List.length_nil, List.replicate_succ, List.replicate_zero, List.cons_append, List.nil_append, Nat.reduceAdd, Nat.reduceSub, Nat.reduceLeDiff, Nat.zero_add, decide_true, decide_false, if_true, if_false, Bool.false_eq_true, Bool.not_true, Bool.not_false, eq_ii, ne_ii, lt_ii, gt_ii, le_ii, ge_ii, add_ii, sub_ii, int_i]
      have fi : sIf (tAndM (tB (e2 eqD (eVar 0) (eC (.int 1)))) (tB (e2 eqD (eVar 1) (eC (.int 1))))) (sRet (eTup (aCons (eC (.int 1)) (aCons (eC (.int 1)) (aCons (eC (.int 1)) aNil))))) sNil [some (.int (n1 : Int)), some (.int (d1 : Int)), some (.int (k : Int)), none, none, none, none] M = .nx [some (.int (n1 : Int)), some (.int (d1 : Int)), some (.int (k : Int)), none, none, none, none] M := by
        unfold sIf
        rw [c1]
        rfl
      simp only [runB, sSeq, List.map_cons, List.map_nil, List.length_cons, List.length_nil, Nat.zero_add, Nat.reduceAdd, Nat.reduceSub, List.replicate_succ, List.replicate_zero, List.cons_append, List.nil_append, fst, fi, stp, ret]
    · rintro i ρ M' hi ⟨rfl, x, y, z, e, o0, o1, o2, o3, rfl, k1, k2, k3, k4, k5, k6, k7, k8⟩
      have hx' : x ≤ n1 := by rw [← k5]; exact le_pow_self k4 k1
      have hy' : y ≤ d1 := by rw [← k6]; exact le_pow_self k4 k2
      have hz' : z ≤ k := by rw [← k7]; exact lo_mul k4
      obtain ⟨x', y', z', f, q0, q1, q2, er, a1, a2, a3, a4, a5, a6, a7, a8⟩ := run_nine x y z (2 + i) o1 o2 o3 M' k1 k2 k3 (by omega) (by omega) (by omega) (Nat.le_trans (bits_mono hx') bn') (Nat.le_trans (bits_mono hy') bd')
      refine ⟨[some (.int (x : Int)), some (.int (y : Int)), some (.int (z : Int)), some (.int ((2 + i : Nat) : Int)), o1, o2, o3], rfl, .inl ⟨_, M', .inl er, rfl, x', y', z', f * e, _, _, _, _, rfl, a1, a2, a3, Nat.mul_pos a4 k4, by rw [Nat.pow_mul, a5, k5], by rw [Nat.pow_mul, a6, k6], by rw [← Nat.mul_assoc, a7, k7], fun q h1 h2 h3 => ?_⟩⟩
      rcases Nat.lt_or_ge q (2 + i) with h4 | h4
      · exact k8 q h1 h4 ⟨Nat.dvd_trans h3.1 ⟨f, a7.symm⟩, pw_up a5 h3.2.1, pw_up a6 h3.2.2⟩
      · have : q = 2 + i := by omega
        subst this
        exact a8 h3
    · rintro ρ M' ⟨rfl, x, y, z, e, o0, o1, o2, o3, rfl, k1, k2, k3, k4, k5, k6, k7, k8⟩
      refine ⟨x, y, z, o0, o1, o2, o3, rfl, k1, k2, k3, fun q h1 h2 h3 h4 => ?_, e, k4, k5, k6, k7⟩
      by_cases hq : q < 2 + (min k B + 1 - 2)
      · exact k8 q h1 hq ⟨h2, h3, h4⟩
      · have hx' : x ≤ n1 := by rw [← k5]; exact le_pow_self k4 k1
        have hy' : y ≤ d1 := by rw [← k6]; exact le_pow_self k4 k2
        have hz' : z ≤ k := by rw [← k7]; exact lo_mul k4
        have hqz := Nat.le_of_dvd k3 h2
        have hBq : B ≤ q := by omega
        have hpow : 2 ^ B ≤ 2 ^ q := Nat.pow_le_pow_right (by decide) hBq
        have x1 : x = 1 := pw_small k1 (by omega) (by omega) h3
        have y1 : y = 1 := pw_small k2 (by omega) (by omega) h4
        refine h11 ⟨?_, ?_⟩
        · rw [← k5, x1, Nat.one_pow]
        · rw [← k6, y1, Nat.one_pow]
end K02
namespace K02
open PySem PySem.Spec DL NT
/-- plain: isinstance can be asked -/
def Pl (d : D) : Prop := ∃ t, tyName d = some t
theorem pl_int (i : Int) : Pl (.int i) := ⟨_, rfl⟩
def isI : D → Bool
  | .int _ => true
  | _ => false
def W3 : D → Bool
  | .int i => decide (Builtin.Int.intBits i ≤ 20000)
  | _ => false
theorem is_int {x : D} (h : Pl x) (M : Mem) : ∃ b, isD [x, .ty "int"] M = .ok (.bl b) M ∧ (b = false → isI x = false) := by
  obtain ⟨t, h⟩ := h
  cases x <;> simp [tyName] at h <;> subst h <;> exact ⟨_, rfl, fun z => by first | rfl | cases z⟩
theorem is_tup {x : D} (h : Pl x) (M : Mem) : ∃ b, isD [x, .ty "tuple"] M = .ok (.bl b) M ∧ (b = true ↔ ∃ l, x = .tup l) := by
  obtain ⟨t, h⟩ := h
  cases x <;> simp [tyName] at h <;> subst h <;> exact ⟨_, rfl, by simp⟩
theorem ev_is_whole {x : D} (h : Pl x) (M : Mem) : m_is_whole [x] M = .ok (.bl (W3 x)) M := by
  obtain ⟨t, h⟩ := h
  unfold m_is_whole b_is_whole
  cases x <;> simp [tyName] at h <;> subst h
  · have f1 : isD [.non, .ty "int"] M = .ok (.bl false) M := rfl
    simp only [runB, sSeq, sIf, sNil, sPass, sCont, sPar, sAsg, sRet, sExpr, liftR, tAndM, tOrM, tNotM, tB, tTr, truD, e2, e1, eChain, eVar, eC, eL, eIf, eAnd, eOr, eNot, eTup, eLst, eBits, aCons, aNil, Res.bind, asgR, asgL, Pat.asg, List.map_cons, List.map_nil, List.set, Option.bind, Option.bind_some, List.getElem?_cons_succ, List.getElem?_cons_zero, List.length_cons, List.length_nil, List.replicate_succ, List.replicate_zero, List.cons_append, List.nil_append, Nat.reduceAdd, Nat.reduceSub, Nat.reduceLeDiff, Nat.zero_add, decide_true, decide_false, if_true, if_false, Bool.false_eq_true, Bool.not_true, Bool.not_false, eq_ii, ne_ii, lt_ii, gt_ii, le_ii, ge_ii, add_ii, sub_ii, f1]
    rfl
  · rename_i b
    have f1 : isD [.bl b, .ty "int"] M = .ok (.bl true) M := rfl
    have f2 : isD [.bl b, .ty "bool"] M = .ok (.bl true) M := rfl
    simp only [runB, sSeq, sIf, sNil, sPass, sCont, sPar, sAsg, sRet, sExpr, liftR, tAndM, tOrM, tNotM, tB, tTr, truD, e2, e1, eChain, eVar, eC, eL, eIf, eAnd, eOr, eNot, eTup, eLst, eBits, aCons, aNil, Res.bind, asgR, asgL, Pat.asg, List.map_cons, List.map_nil, List.set, Option.bind, Option.bind_some, List.getElem?_cons_succ, List.getElem?_cons_zero, List.length_cons, List.length_nil, List.replicate_succ, List.replicate_zero, List.cons_append, List.nil_append, Nat.reduceAdd, Nat.reduceSub, Nat.reduceLeDiff, Nat.zero_add, decide_true, decide_false, if_true, if_false, Bool.false_eq_true, Bool.not_true, Bool.not_false, eq_ii, ne_ii, lt_ii, gt_ii, le_ii, ge_ii, add_ii, sub_ii, f1, f2]
    rfl
  · rename_i i
    have f1 : isD [.int i, .ty "int"] M = .ok (.bl true) M := rfl
    have f2 : isD [.int i, .ty "bool"] M = .ok (.bl false) M := rfl
    have f3 : decide (((Builtin.Int.intBits i : Nat) : Int) ≤ 20000) = decide (Builtin.Int.intBits i ≤ 20000) := by
      by_cases q : Builtin.Int.intBits i ≤ 20000
      · rw [decide_eq_true q, decide_eq_true (by omega)]
      · rw [decide_eq_false q, decide_eq_false (by omega)]
    simp only [runB, sSeq, sIf, sNil, sPass, sCont, sPar, sAsg, sRet, sExpr, liftR, tAndM, tOrM, tNotM, tB, tTr, truD, e2, e1, eChain, eVar, eC, eL, eIf, eAnd, eOr, eNot, eTup, eLst, eBits, aCons, aNil, Res.bind, asgR, asgL, Pat.asg, List.map_cons, List.map_nil, List.set, Option.bind, Option.bind_some, List.getElem?_cons_succ, List.getElem?_cons_zero, List.length_cons, List.length_nil, List.replicate_succ, List.replicate_zero, List.cons_append, List.nil_append, Nat.reduceAdd, Nat.reduceSub, Nat.reduceLeDiff, Nat.zero_add, decide_true, decide_false, if_true, if_false, Bool.false_eq_true, Bool.not_true, Bool.not_false, eq_ii, ne_ii, lt_ii, gt_ii, le_ii, ge_ii, add_ii, sub_ii, f1, f2, f3]
    rfl
  · rename_i s
    have f1 : isD [.str s, .ty "int"] M = .ok (.bl false) M := rfl
    simp only [runB, sSeq, sIf, sNil, sPass, sCont, sPar, sAsg, sRet, sExpr, liftR, tAndM, tOrM, tNotM, tB, tTr, truD, e2, e1, eChain, eVar, eC, eL, eIf, eAnd, eOr, eNot, eTup, eLst, eBits, aCons, aNil, Res.bind, asgR, asgL, Pat.asg, List.map_cons, List.map_nil, List.set, Option.bind, Option.bind_some, List.getElem?_cons_succ, List.getElem?_cons_zero, List.length_cons, List.length_nil, List.replicate_succ, List.replicate_zero, List.cons_append, List.nil_append, Nat.reduceAdd, Nat.reduceSub, Nat.reduceLeDiff, Nat.zero_add, decide_true, decide_false, if_true, if_false, Bool.false_eq_true, Bool.not_true, Bool.not_false, eq_ii, ne_ii, lt_ii, gt_ii, le_ii, ge_ii, add_ii, sub_ii, f1]
    rfl
  · rename_i l
    have f1 : isD [.tup l, .ty "int"] M = .ok (.bl false) M := rfl
    simp only [runB, sSeq, sIf, sNil, sPass, sCont, sPar, sAsg, sRet, sExpr, liftR, tAndM, tOrM, tNotM, tB, tTr, truD, e2, e1, eChain, eVar, eC, eL, eIf, eAnd, eOr, eNot, eTup, eLst, eBits, aCons, aNil, Res.bind, asgR, asgL, Pat.asg, List.map_cons, List.map_nil, List.set, Option.bind, Option.bind_some, List.getElem?_cons_succ, List.getElem?_cons_zero, List.length_cons, List.length_nil, List.replicate_succ, List.replicate_zero, List.cons_append, List.nil_append, Nat.reduceAdd, Nat.reduceSub, Nat.reduceLeDiff, Nat.zero_add, decide_true, decide_false, if_true, if_false, Bool.false_eq_true, Bool.not_true, Bool.not_false, eq_ii, ne_ii, lt_ii, gt_ii, le_ii, ge_ii, add_ii, sub_ii, f1]
    rfl
  · rename_i l
    have f1 : isD [.lst l, .ty "int"] M = .ok (.bl false) M := rfl
    simp only [runB, sSeq, sIf, sNil, sPass, sCont, sPar, sAsg, sRet, sExpr, liftR, tAndM, tOrM, tNotM, tB, tTr, truD, e2, e1, eChain, eVar, eC, eL, eIf, eAnd, eOr, eNot, eTup, eLst, eBits, aCons, aNil, Res.bind, asgR, asgL, Pat.asg, List.map_cons, List.map_nil, List.set, Option.bind, Option.bind_some, List.getElem?_cons_succ, List.getElem?_cons_zero, List.length_cons, List.length_nil, List.replicate_succ, List.replicate_zero, List.cons_append, List.nil_append, Nat.reduceAdd, Nat.reduceSub, Nat.reduceLeDiff, Nat.zero_add, decide_true, decide_false, if_true, if_false, Bool.false_eq_true, Bool.not_true, Bool.not_false, eq_ii, ne_ii, lt_ii, gt_ii, le_ii, ge_ii, add_ii, sub_ii, f1]
    rfl
theorem ix0 (x : D) (l : List D) (M : Mem) : ixD (.tup (x :: l)) (.int 0) M = .ok x M := by
  show optR (L2.atI (x :: l) ((0 : Nat) : Int)) M = _
  unfold L2.atI L2.ixN
  rw [if_pos (by omega), if_pos (by first | (simp; done) | (simp; omega))]
  rfl
theorem ix1 (x y : D) (l : List D) (M : Mem) : ixD (.tup (x :: y :: l)) (.int 1) M = .ok y M := by
  show optR (L2.atI (x :: y :: l) ((1 : Nat) : Int)) M = _
  unfold L2.atI L2.ixN
  rw [if_pos (by omega), if_pos (by first | (simp; done) | (simp; omega))]
  rfl
theorem ix2 (x y z : D) (l : List D) (M : Mem) : ixD (.tup (x :: y :: z :: l)) (.int 2) M = .ok z M := by
  show optR (L2.atI (x :: y :: z :: l) ((2 : Nat) : Int)) M = _
  unfold L2.atI L2.ixN
  rw [if_pos (by omega), if_pos (by first | (simp; done) | (simp; omega))]
  rfl
theorem len_t (l : List D) (M : Mem) : lenD [.tup l] M = .ok (.int (l.length : Int)) M := rfl
theorem ev_tuple_of {x : D} (h : Pl x) (M : Mem) : ∃ b, m_is_tuple_of [x, .int 3] M = .ok (.bl b) M ∧ (b = true ↔ ∃ l, x = .tup l ∧ l.length = 3) := by
  obtain ⟨b, e, hb⟩ := is_tup h M
  unfold m_is_tuple_of b_is_tuple_of
  cases b with
  | false =>
    refine ⟨false, by simp only [runB, sSeq, sIf, sNil, sPass, sCont, sPar, sAsg, sRet, sExpr, liftR, tAndM, tOrM, tNotM, tB, tTr, truD, e2, e1, eChain, eVar, eC, eL, eIf, eAnd, eOr, eNot, eTup, eLst, eBits, aCons, aNil, Res.bind, asgR, asgL, Pat.asg, List.map_cons, List.map_nil, List.set, Option.bind, Option.bind_some, List.getElem?_cons_succ, List.getElem?_cons_zero, List.length_cons, List.length_nil, List.replicate_succ, List.replicate_zero, List.cons_append, List.nil_append, Nat.reduceAdd, Nat.reduceSub, Nat.reduceLeDiff, Nat.zero_add, decide_true, decide_false, if_true, if_false, Bool.false_eq_true, Bool.not_true, Bool.not_false, eq_ii, ne_ii, lt_ii, gt_ii, le_ii, ge_ii, add_ii, sub_ii, e], ?_⟩
    refine ⟨fun z => (nomatch z), fun ⟨l, hl, _⟩ => ?_⟩
    have := hb.mpr ⟨l, hl⟩
    cases this
  | true =>
    obtain ⟨l, rfl⟩ := hb.mp rfl
    refine ⟨decide ((l.length : Int) = 3), by simp only [runB, sSeq, sIf, sNil, sPass, sCont, sPar, sAsg, sRet, sExpr, liftR, tAndM, tOrM, tNotM, tB, tTr, truD, e2, e1, eChain, eVar, eC, eL, eIf, eAnd, eOr, eNot, eTup, eLst, eBits, aCons, aNil, Res.bind, asgR, asgL, Pat.asg, List.map_cons, List.map_nil, List.set, Option.bind, Option.bind_some, List.getElem?_cons_succ, List.getElem?_cons_zero, List.length_cons, List.length_nil, List.replicate_succ, List.replicate_zero, List.cons_append, List.nil_append, Nat.reduceAdd, Nat.reduceSub, Nat.reduceLeDiff, Nat.zero_add, decide_true, decide_false, if_true, if_false, Bool.false_eq_true, Bool.not_true, Bool.not_false, eq_ii, ne_ii, lt_ii, gt_ii, le_ii, ge_ii, add_ii, sub_ii, e, len_t], ?_⟩
    refine ⟨fun z => ⟨l, rfl, by have := of_decide_eq_true z; omega⟩, fun ⟨l', hl, hn⟩ => ?_⟩
    cases hl
    exact decide_eq_true (by omega)
theorem bools_map (f : D → Bool) : ∀ l : List D, boolsOf (l.map fun x => .bl (f x)) = some (l.map f)
  | [] => rfl
  | x :: l => by
    rw [List.map_cons, List.map_cons]
    simp only [boolsOf, bools_map f l]
    rfl
theorem lc_whole (ρ0 : DL.Env) (h : ρ0.length = 5) (M : Mem) : ∀ l : List D, (∀ x ∈ l, Pl x) → lcL (.nm 4) cYes (eL m_is_whole (aCons (eVar 4) aNil)) ρ0 l M = some (l.map (fun x => D.bl (W3 x)), M)
  | [], _ => rfl
  | x :: l, hp => by
    unfold lcL
    have q : Pat.asg (.nm 4) x ρ0 = some (ρ0.set 4 (some x)) := rfl
    have g : (ρ0.set 4 (some x))[4]? = some (some x) := by
      rw [List.getElem?_set_self (by omega)]
    have w := ev_is_whole (hp x List.mem_cons_self) M
    have e : eL m_is_whole (aCons (eVar 4) aNil) (ρ0.set 4 (some x)) M = .ok (.bl (W3 x)) M := by
      simp only [eL, aCons, aNil, eVar, g, Res.bind, w]
    rw [q]
    simp only [cYes, if_true, e, lc_whole ρ0 h M l fun y hy => hp y (List.mem_cons_of_mem _ hy)]
    rfl
theorem all_whole (l : List D) (hp : ∀ x ∈ l, Pl x) (hl : l.length ≤ 1000) (M : Mem) : eL allD (aCons (eLc (iSeq (eVar 0)) (.nm 4) [4] cYes (eL m_is_whole (aCons (eVar 4) aNil))) aNil) [some (.tup l), none, none, none, none] M = .ok (.bl (l.all W3)) M := by
  have e : eLc (iSeq (eVar 0)) (.nm 4) [4] cYes (eL m_is_whole (aCons (eVar 4) aNil)) [some (.tup l), none, none, none, none] M = .ok (.lst (l.map fun x => .bl (W3 x))) M := by
    unfold eLc
    have i : iSeq (eVar 0) [some (.tup l), none, none, none, none] M = .ok l M := rfl
    rw [i]
    simp only [Res.bind]
    rw [lc_whole _ rfl M l hp]
    show (if (l.map _).length ≤ 1000000 then _ else _) = _
    rw [if_pos (by rw [List.length_map]; omega)]
  simp only [eL, aCons, aNil, e, Res.bind, allD, bools_map]
  rw [List.all_map]
  rfl
/-- is it a value, in lowest form -/
def IsV (a b : Int) (k : Int) : Prop := 1 ≤ b ∧ 1 ≤ k ∧ Nat.gcd a.natAbs b.natAbs = 1 ∧ (k = 1 ∨ (1 ≤ a ∧ Red a.natAbs b.natAbs k.natAbs))
theorem gcd_ii (a b : Int) (M : Mem) : gcdD [.int a, .int b] M = .ok (.int ((Nat.gcd a.natAbs b.natAbs : Nat) : Int)) M := rfl
theorem bits_abs (a : Int) : Builtin.Int.intBits (a.natAbs : Int) = Builtin.Int.intBits a := by
  unfold Builtin.Int.intBits
  by_cases h : a = 0
  · subst h
    rfl
  · rw [if_neg (by simpa using h), if_neg (by simpa using h)]
    simp
theorem ev_form_ints (a b k : Int) (M : Mem) (ba : Builtin.Int.intBits a ≤ 5000) (bb : Builtin.Int.intBits b ≤ 5000) (hk : k < 100000) (bk : Builtin.Int.intBits k ≤ 5000) : ∃ v, m_is_value_form [.tup [.int a, .int b, .int k]] M = .ok (.bl v) M ∧ (v = true ↔ IsV a b k) := by
  obtain ⟨t, et, ht⟩ := ev_tuple_of (x := .tup [.int a, .int b, .int k]) ⟨_, rfl⟩ M
  have t1 : t = true := ht.mpr ⟨_, rfl, rfl⟩
  subst t1
  have aw := all_whole [.int a, .int b, .int k] (fun x hx => by
    simp only [List.mem_cons, List.not_mem_nil, or_false] at hx
    rcases hx with rfl | rfl | rfl <;> exact pl_int _) (by simp) M
  have aw' : ([.int a, .int b, .int k] : List D).all W3 = true := by
    simp only [List.all_cons, List.all_nil, W3]
    rw [decide_eq_true (by omega), decide_eq_true (by omega), decide_eq_true (by omega)]
    rfl
  rw [aw'] at aw
  have c1 : tOrM (tNotM (tTr (eL m_is_tuple_of (aCons (eVar 0) (aCons (eC (.int 3)) aNil))))) (tNotM (tTr (eL allD (aCons (eLc (iSeq (eVar 0)) (.nm 4) [4] cYes (eL m_is_whole (aCons (eVar 4) aNil))) aNil)))) [some (.tup [.int a, .int b, .int k]), none, none, none, none] M = .ok false M := by
    have q1 : tNotM (tTr (eL m_is_tuple_of (aCons (eVar 0) (aCons (eC (.int 3)) aNil)))) [some (.tup [.int a, .int b, .int k]), none, none, none, none] M = .ok false M := by
      simp only [runB, sSeq, sIf, sNil, sPass, sCont, sPar, sAsg, sRet, sExpr, liftR, tAndM, tOrM, tNotM, tB, tTr, truD, e2, e1, eChain, eVar, eC, eL, eIf, eAnd, eOr, eNot, eTup, eLst, eBits, aCons, aNil, Res.bind, asgR, asgL, Pat.asg, List.map_cons, List.map_nil, List.set, Option.bind, Option.bind_some, List.getElem?_cons_succ, List.getElem?_cons_zero, List.length_cons, List.length_nil, List.replicate_succ, List.replicate_zero, List.cons_append, List.nil_append, Nat.reduceAdd, Nat.reduceSub, Nat.reduceLeDiff, Nat.zero_add, decide_true, decide_false, if_true, if_false, Bool.false_eq_true, Bool.not_true, Bool.not_false, eq_ii, ne_ii, lt_ii, gt_ii, le_ii, ge_ii, add_ii, sub_ii, et]
    have q2 : tNotM (tTr (eL allD (aCons (eLc (iSeq (eVar 0)) (.nm 4) [4] cYes (eL m_is_whole (aCons (eVar 4) aNil))) aNil))) [some (.tup [.int a, .int b, .int k]), none, none, none, none] M = .ok false M := by
      unfold tNotM tTr
      rw [aw]
      rfl
    unfold tOrM
    rw [q1]
    exact q2
  have go : ∀ (R : Res D → Prop), R (runB 5 (sSeq (sAsg (.tp [(.nm 1), (.nm 2), (.nm 3)]) (eVar 0)) (sSeq (sIf (tOrM (tB (e2 ltD (eVar 2) (eC (.int 1)))) (tOrM (tB (e2 ltD (eVar 3) (eC (.int 1)))) (tB (e2 neD (eL gcdD (aCons (eVar 1) (aCons (eVar 2) aNil))) (eC (.int 1)))))) (sRet (eC (.bl false))) sNil) (sSeq (sIf (tB (e2 eqD (eVar 3) (eC (.int 1)))) (sRet (eC (.bl true))) sNil) (sRet (eAnd (e2 geD (eVar 1) (eC (.int 1))) (e2 eqD (eL m_shared_degree (aCons (eVar 1) (aCons (eVar 2) (aCons (eVar 3) aNil)))) (eC (.int 1)))))))) [.tup [.int a, .int b, .int k]] M) → R (m_is_value_form [.tup [.int a, .int b, .int k]] M) := fun R h => by
    unfold m_is_value_form b_is_value_form
    rw [runB] at h ⊢
    rw [sSeq]
    have e : sIf (tOrM (tNotM (tTr (eL m_is_tuple_of (aCons (eVar 0) (aCons (eC (.int 3)) aNil))))) (tNotM (tTr (eL allD (aCons (eLc (iSeq (eVar 0)) (.nm 4) [4] cYes (eL m_is_whole (aCons (eVar 4) aNil))) aNil))))) (sRet (eC (.bl false))) sNil (List.map some [D.tup [D.int a, D.int b, D.int k]] ++ List.replicate (5 - [D.tup [D.int a, D.int b, D.int k]].length) none) M = .nx (List.map some [D.tup [D.int a, D.int b, D.int k]] ++ List.replicate (5 - [D.tup [D.int a, D.int b, D.int k]].length) none) M := by
      show liftR (tOrM _ _ [some (.tup [.int a, .int b, .int k]), none, none, none, none] M) _ _ = _
      rw [c1]
      rfl
    rw [e]
    exact h
  refine go (fun r => ∃ v, r = .ok (.bl v) M ∧ (v = true ↔ IsV a b k)) ?_
  by_cases hb : b < 1
  · refine ⟨false, by simp only [runB, sSeq, sIf, sNil, sPass, sCont, sPar, sAsg, sRet, sExpr, liftR, tAndM, tOrM, tNotM, tB, tTr, truD, e2, e1, eChain, eVar, eC, eL, eIf, eAnd, eOr, eNot, eTup, eLst, eBits, aCons, aNil, Res.bind, asgR, asgL, Pat.asg, List.map_cons, List.map_nil, List.set, Option.bind, Option.bind_some, List.getElem?_cons_succ, List.getElem?_cons_zero, List.length_cons, List.length_nil, List.replicate_succ, List.replicate_zero, List.cons_append, List.nil_append, Nat.reduceAdd, Nat.reduceSub, Nat.reduceLeDiff, Nat.zero_add, decide_true, decide_false, if_true, if_false, Bool.false_eq_true, Bool.not_true, Bool.not_false, eq_ii, ne_ii, lt_ii, gt_ii, le_ii, ge_ii, add_ii, sub_ii, asgR, hb], ⟨fun z => (nomatch z), fun z => ?_⟩⟩
    have := z.1
    omega
  by_cases hk1 : k < 1
  · refine ⟨false, by simp only [runB, sSeq, sIf, sNil, sPass, sCont, sPar, sAsg, sRet, sExpr, liftR, tAndM, tOrM, tNotM, tB, tTr, truD, e2, e1, eChain, eVar, eC, eL, eIf, eAnd, eOr, eNot, eTup, eLst, eBits, aCons, aNil, Res.bind, asgR, asgL, Pat.asg, List.map_cons, List.map_nil, List.set, Option.bind, Option.bind_some, List.getElem?_cons_succ, List.getElem?_cons_zero, List.length_cons, List.length_nil, List.replicate_succ, List.replicate_zero, List.cons_append, List.nil_append, Nat.reduceAdd, Nat.reduceSub, Nat.reduceLeDiff, Nat.zero_add, decide_true, decide_false, if_true, if_false, Bool.false_eq_true, Bool.not_true, Bool.not_false, eq_ii, ne_ii, lt_ii, gt_ii, le_ii, ge_ii, add_ii, sub_ii, asgR, hb, hk1], ⟨fun z => (nomatch z), fun z => ?_⟩⟩
    have := z.2.1
    omega
  by_cases hg : Nat.gcd a.natAbs b.natAbs = 1
  rotate_left 1
  · have hg' : ¬ ((Nat.gcd a.natAbs b.natAbs : Nat) : Int) = 1 := by omega
    exact ⟨false, by simp only [runB, sSeq, sIf, sNil, sPass, sCont, sPar, sAsg, sRet, sExpr, liftR, tAndM, tOrM, tNotM, tB, tTr, truD, e2, e1, eChain, eVar, eC, eL, eIf, eAnd, eOr, eNot, eTup, eLst, eBits, aCons, aNil, Res.bind, asgR, asgL, Pat.asg, List.map_cons, List.map_nil, List.set, Option.bind, Option.bind_some, List.getElem?_cons_succ, List.getElem?_cons_zero, List.length_cons, List.length_nil, List.replicate_succ, List.replicate_zero, List.cons_append, List.nil_append, Nat.reduceAdd, Nat.reduceSub, Nat.reduceLeDiff, Nat.zero_add, decide_true, decide_false, if_true, if_false, Bool.false_eq_true, Bool.not_true, Bool.not_false, eq_ii, ne_ii, lt_ii, gt_ii, le_ii, ge_ii, add_ii, sub_ii, asgR, hb, hk1, gcd_ii, hg'], ⟨fun z => (nomatch z), fun z => absurd z.2.2.1 hg⟩⟩
  have hg' : ((Nat.gcd a.natAbs b.natAbs : Nat) : Int) = 1 := by omega
  by_cases hk2 : k = 1
  · subst hk2
    have k1 : ¬ (1 : Int) < 1 := by decide
    exact ⟨true, by simp only [runB, sSeq, sIf, sNil, sPass, sCont, sPar, sAsg, sRet, sExpr, liftR, tAndM, tOrM, tNotM, tB, tTr, truD, e2, e1, eChain, eVar, eC, eL, eIf, eAnd, eOr, eNot, eTup, eLst, eBits, aCons, aNil, Res.bind, asgR, asgL, Pat.asg, List.map_cons, List.map_nil, List.set, Option.bind, Option.bind_some, List.getElem?_cons_succ, List.getElem?_cons_zero, List.length_cons, List.length_nil, List.replicate_succ, List.replicate_zero, List.cons_append, List.nil_append, Nat.reduceAdd, Nat.reduceSub, Nat.reduceLeDiff, Nat.zero_add, decide_true, decide_false, if_true, if_false, Bool.false_eq_true, Bool.not_true, Bool.not_false, eq_ii, ne_ii, lt_ii, gt_ii, le_ii, ge_ii, add_ii, sub_ii, asgR, hb, k1, gcd_ii, hg'], ⟨fun _ => ⟨by omega, by omega, hg, .inl rfl⟩, fun _ => rfl⟩⟩
  by_cases ha : 1 ≤ a
  · obtain ⟨r, er, hr⟩ := ev_shared_degree a.natAbs b.natAbs k.natAbs M (by omega) (by omega) (by omega) (by omega) (by rw [bits_abs]; omega) (by rw [bits_abs]; omega)
    rw [show ((a.natAbs : Nat) : Int) = a by omega, show ((b.natAbs : Nat) : Int) = b by omega, show ((k.natAbs : Nat) : Int) = k by omega] at er
    refine ⟨decide ((r : Int) = 1), by simp only [runB, sSeq, sIf, sNil, sPass, sCont, sPar, sAsg, sRet, sExpr, liftR, tAndM, tOrM, tNotM, tB, tTr, truD, e2, e1, eChain, eVar, eC, eL, eIf, eAnd, eOr, eNot, eTup, eLst, eBits, aCons, aNil, Res.bind, asgR, asgL, Pat.asg, List.map_cons, List.map_nil, List.set, Option.bind, Option.bind_some, List.getElem?_cons_succ, List.getElem?_cons_zero, List.length_cons, List.length_nil, List.replicate_succ, List.replicate_zero, List.cons_append, List.nil_append, Nat.reduceAdd, Nat.reduceSub, Nat.reduceLeDiff, Nat.zero_add, decide_true, decide_false, if_true, if_false, Bool.false_eq_true, Bool.not_true, Bool.not_false, eq_ii, ne_ii, lt_ii, gt_ii, le_ii, ge_ii, add_ii, sub_ii, asgR, hb, hk1, gcd_ii, hg', hk2, ha, er], ?_⟩
    rw [decide_eq_true_iff]
    refine ⟨fun z => ⟨by omega, by omega, hg, .inr ⟨ha, hr.one_iff.mp (by omega)⟩⟩, fun z => ?_⟩
    rcases z.2.2.2 with z | z
    · exact absurd z hk2
    · have := hr.one_iff.mpr z.2
      omega
  · refine ⟨false, by simp only [runB, sSeq, sIf, sNil, sPass, sCont, sPar, sAsg, sRet, sExpr, liftR, tAndM, tOrM, tNotM, tB, tTr, truD, e2, e1, eChain, eVar, eC, eL, eIf, eAnd, eOr, eNot, eTup, eLst, eBits, aCons, aNil, Res.bind, asgR, asgL, Pat.asg, List.map_cons, List.map_nil, List.set, Option.bind, Option.bind_some, List.getElem?_cons_succ, List.getElem?_cons_zero, List.length_cons, List.length_nil, List.replicate_succ, List.replicate_zero, List.cons_append, List.nil_append, Nat.reduceAdd, Nat.reduceSub, Nat.reduceLeDiff, Nat.zero_add, decide_true, decide_false, if_true, if_false, Bool.false_eq_true, Bool.not_true, Bool.not_false, eq_ii, ne_ii, lt_ii, gt_ii, le_ii, ge_ii, add_ii, sub_ii, asgR, hb, hk1, gcd_ii, hg', hk2, ha], ⟨fun z => (nomatch z), fun z => ?_⟩⟩
    rcases z.2.2.2 with z | z
    · exact absurd z hk2
    · exact absurd z.1 ha
/-- what is no tuple of three whole numbers -/
theorem ev_form_odd {x : D} (h : Pl x) (M : Mem) (hx : ∀ l, x = .tup l → (∀ y ∈ l, Pl y) ∧ l.length ≤ 1000 ∧ (l.length = 3 → l.all isI = false)) : m_is_value_form [x] M = .ok (.bl false) M := by
  obtain ⟨t, et, ht⟩ := ev_tuple_of h M
  unfold m_is_value_form b_is_value_form
  cases t with
  | false => simp only [runB, sSeq, sIf, sNil, sPass, sCont, sPar, sAsg, sRet, sExpr, liftR, tAndM, tOrM, tNotM, tB, tTr, truD, e2, e1, eChain, eVar, eC, eL, eIf, eAnd, eOr, eNot, eTup, eLst, eBits, aCons, aNil, Res.bind, asgR, asgL, Pat.asg, List.map_cons, List.map_nil, List.set, Option.bind, Option.bind_some, List.getElem?_cons_succ, List.getElem?_cons_zero, List.length_cons, List.length_nil, List.replicate_succ, List.replicate_zero, List.cons_append, List.nil_append, Nat.reduceAdd, Nat.reduceSub, Nat.reduceLeDiff, Nat.zero_add, decide_true, decide_false, if_true, if_false, Bool.false_eq_true, Bool.not_true, Bool.not_false, eq_ii, ne_ii, lt_ii, gt_ii, le_ii, ge_ii, add_ii, sub_ii, et]
  | true =>
    obtain ⟨l, rfl, h3⟩ := ht.mp rfl
    obtain ⟨h1, h2, h4⟩ := hx l rfl
    have aw := all_whole l h1 h2 M
    have f : l.all W3 = false := by
      have := h4 h3
      rw [List.all_eq_false] at this ⊢
      obtain ⟨y, hy, hn⟩ := this
      refine ⟨y, hy, ?_⟩
      cases y <;> simp [isI, W3] at hn ⊢
    rw [f] at aw
    have c1 : tOrM (tNotM (tTr (eL m_is_tuple_of (aCons (eVar 0) (aCons (eC (.int 3)) aNil))))) (tNotM (tTr (eL allD (aCons (eLc (iSeq (eVar 0)) (.nm 4) [4] cYes (eL m_is_whole (aCons (eVar 4) aNil))) aNil)))) [some (.tup l), none, none, none, none] M = .ok true M := by
      have q1 : tNotM (tTr (eL m_is_tuple_of (aCons (eVar 0) (aCons (eC (.int 3)) aNil)))) [some (.tup l), none, none, none, none] M = .ok false M := by
        simp only [runB, sSeq, sIf, sNil, sPass, sCont, sPar, sAsg, sRet, sExpr, liftR, tAndM, tOrM, tNotM, tB, tTr, truD, e2, e1, eChain, eVar, eC, eL, eIf, eAnd, eOr, eNot, eTup, eLst, eBits, aCons, aNil, Res.bind, asgR, asgL, Pat.asg, List.map_cons, List.map_nil, List.set, Option.bind, Option.bind_some, List.getElem?_cons_succ, List.getElem?_cons_zero, List.length_cons, List.length_nil, List.replicate_succ, List.replicate_zero, List.cons_append, List.nil_append, Nat.reduceAdd, Nat.reduceSub, Nat.reduceLeDiff, Nat.zero_add, decide_true, decide_false, if_true, if_false, Bool.false_eq_true, Bool.not_true, Bool.not_false, eq_ii, ne_ii, lt_ii, gt_ii, le_ii, ge_ii, add_ii, sub_ii, et]
      have q2 : tNotM (tTr (eL allD (aCons (eLc (iSeq (eVar 0)) (.nm 4) [4] cYes (eL m_is_whole (aCons (eVar 4) aNil))) aNil))) [some (.tup l), none, none, none, none] M = .ok true M := by
        unfold tNotM tTr
        rw [aw]
        rfl
      unfold tOrM
      rw [q1]
      exact q2
    rw [runB, sSeq, sIf]
    rw [show List.map some [D.tup l] ++ List.replicate (5 - [D.tup l].length) none = [some (.tup l), none, none, none, none] from rfl]
    rw [c1]
    rfl
theorem sl2 (x y z : D) (M : Mem) : slD (.tup [x, y, z]) none (some 2) M = .ok (.tup [x, y]) M := rfl
theorem int_bl (b : Bool) (M : Mem) : intD [.bl b] M = .ok (.int (if b then 1 else 0)) M := rfl
theorem mul_ii {a b : Int} (M : Mem) (h : a.natAbs.log2 + b.natAbs.log2 < 1000000) : mulI (.int a) (.int b) M = .ok (.int (a * b)) M := by
  show (if mulOk a b = true then Res.ok (D.int (a * b)) M else .bad) = _
  rw [if_pos (by unfold mulOk; exact decide_eq_true h)]
theorem log_abs {a : Int} {k : Nat} (h : Builtin.Int.intBits a ≤ k) : a.natAbs.log2 ≤ k := by
  rw [← bits_abs, bits_nn] at h
  by_cases h0 : a.natAbs = 0
  · rw [h0]
    simp
  · rw [if_neg h0] at h
    omega
abbrev T3 (a b k : Int) : D := .tup [.int a, .int b, .int k]
theorem lcm_nn (a b : Nat) (M : Mem) (ha : a < 2 ^ 64) (hb : b < 2 ^ 64) : lcmD [.int (a : Int), .int (b : Int)] M = .ok (.int ((Nat.lcm a b : Nat) : Int)) M := by
  show (if (decide ((a : Int).natAbs < 2 ^ 64) && decide ((b : Int).natAbs < 2 ^ 64)) = true then Res.ok (D.int ((Nat.lcm (a : Int).natAbs (b : Int).natAbs : Nat) : Int)) M else .bad) = _
  rw [if_pos (by
    rw [decide_eq_true (by simpa using ha), decide_eq_true (by simpa using hb)]
    rfl), Int.natAbs_natCast, Int.natAbs_natCast]
theorem lc_cons {p : Pat} {c : DL.Env → Mem → Res Bool} {e : DL.Env → Mem → Res D} {ρ0 ρ1 : DL.Env} {d x : D} {r xs : List D} {M M2 M' : Mem} (h1 : p.asg d ρ0 = some ρ1) (h2 : c ρ1 M = .ok true M) (h3 : e ρ1 M = .ok x M2) (h4 : lcL p c e ρ0 r M2 = some (xs, M')) : lcL p c e ρ0 (d :: r) M = some (x :: xs, M') := by
  unfold lcL
  rw [h1]
  dsimp only
  rw [h2]
  dsimp only
  rw [if_pos rfl, h3]
  dsimp only
  rw [h4]
  rfl
theorem ev_law_multiple (k1 k2 : Nat) (M : Mem) (h1 : 0 < k1) (h2 : 0 < k2) (l1 : k1 ≤ 30) (l2 : k2 ≤ 30) : m_law_multiple [.lst [.int (k1 : Int), .int (k2 : Int)]] M = .ok (.int ((Nat.lcm k1 k2 : Nat) : Int)) M := by
  have b1 : Builtin.Int.intBits (k1 : Int) ≤ 40000 := Nat.le_trans (bits_le (k := 5) (by omega)) (by omega)
  have b2 : Builtin.Int.intBits (k2 : Int) ≤ 40000 := Nat.le_trans (bits_le (k := 5) (by omega)) (by omega)
  have g1 := ev_law_gcd 1 (k1 : Int) M (by decide) (by rw [Int.natAbs_natCast]; exact b1)
  have g2 := ev_law_gcd (k1 : Int) (k2 : Int) M (by rw [Int.natAbs_natCast]; exact b1) (by rw [Int.natAbs_natCast]; exact b2)
  rw [Int.natAbs_natCast] at g1
  rw [Int.natAbs_natCast, Int.natAbs_natCast] at g2
  rw [show Nat.gcd (Int.natAbs 1) k1 = 1 from Nat.gcd_one_left k1] at g1
  have m1 : mulI (.int 1) (.int (k1 : Int)) M = .ok (.int ((1 * k1 : Nat) : Int)) M := mul_nn (a := 1) (b := k1) M (by have h9 := log64 (a := k1) (by omega); have h8 : (1 : Nat).log2 = 0 := (by decide); omega)
  rw [Nat.one_mul] at m1
  have d1 : divD (.int (k1 : Int)) (.int ((1 : Nat) : Int)) M = .ok (.int ((k1 / 1 : Nat) : Int)) M := div_nn M (by omega) (by decide)
  rw [Nat.div_one] at d1
  have m2 := mul_nn (a := k1) (b := k2) M (by have := log64 (a := k1) (by omega); have := log64 (a := k2) (by omega); omega)
  have gp : 0 < Nat.gcd k1 k2 := Nat.gcd_pos_of_pos_left _ h1
  have gl := Nat.le_of_dvd h1 (Nat.gcd_dvd_left k1 k2)
  have d2 := div_nn (a := k1 * k2) (b := Nat.gcd k1 k2) M gp (by have := log64 (a := Nat.gcd k1 k2) (by omega); omega)
  have e : k1 * k2 / Nat.gcd k1 k2 = Nat.lcm k1 k2 := rfl
  rw [e] at d2
  unfold m_law_multiple b_law_multiple
  simp only [runB, sSeq, sIf, sNil, sPass, sCont, sPar, sAsg, sRet, sExpr, liftR, tAndM, tOrM, tNotM, tB, tTr, truD, e2, e1, eChain, eVar, eC, eL, eIf, eAnd, eOr, eNot, eTup, eLst, eBits, aCons, aNil, Res.bind, asgR, asgL, Pat.asg, List.map_cons, List.map_nil, List.set, Option.bind, Option.bind_some, List.getElem?_cons_succ, List.getElem?_cons_zero, List.length_cons, List.length_nil, List.replicate_succ, List.replicate_zero, List.cons_append, List.nil_append, Nat.reduceAdd, Nat.reduceSub, Nat.reduceLeDiff, Nat.zero_add, decide_true, decide_false, if_true, if_false, Bool.false_eq_true, Bool.not_true, Bool.not_false, eq_ii, ne_ii, lt_ii, gt_ii, le_ii, ge_ii, add_ii, sub_ii, asgR, sFor, iSeq, seqOf, forL, m1, g1, d1, m2, g2, d2]
theorem red_natAbs {a : Int} {d : Nat} (hd : 0 < d) : (a.fdiv (Nat.gcd a.natAbs d : Nat)).natAbs = a.natAbs / Nat.gcd a.natAbs d := by
  have dv : ((Nat.gcd a.natAbs d : Nat) : Int) ∣ a := by
    rw [← Int.natAbs_dvd_natAbs, Int.natAbs_natCast]
    exact Nat.gcd_dvd_left _ _
  rw [Int.fdiv_eq_ediv_of_dvd dv, Int.natAbs_ediv_of_dvd dv, Int.natAbs_natCast]
theorem bits_absle {a b : Int} (h : a.natAbs ≤ b.natAbs) : Builtin.Int.intBits a ≤ Builtin.Int.intBits b := by
  rw [← bits_abs a, ← bits_abs b]
  exact bits_mono h
theorem div_g (a : Int) (d : Nat) (M : Mem) (hd : 0 < d) (bd : Builtin.Int.intBits (d : Int) ≤ 5000) : divD (.int a) (.int ((Nat.gcd a.natAbs d : Nat) : Int)) M = .ok (.int (a.fdiv (Nat.gcd a.natAbs d : Nat))) M := by
  have hg : 0 < Nat.gcd a.natAbs d := Nat.gcd_pos_of_pos_right _ hd
  refine div_in M hg ?_
  have := log_bits hg (Nat.le_trans (bits_mono (Nat.le_of_dvd hd (Nat.gcd_dvd_right a.natAbs d))) bd)
  omega
theorem dvd_pow {x e : Nat} (he : 0 < e) : x ∣ x ^ e := by
  obtain ⟨j, rfl⟩ := Nat.exists_eq_succ_of_ne_zero (show e ≠ 0 by omega)
  exact ⟨x ^ j, by rw [Nat.pow_succ, Nat.mul_comm]⟩
theorem ev_made (a : Int) (d : Nat) (M : Mem) (hd : 0 < d) (bd : Builtin.Int.intBits (d : Int) ≤ 5000) : m_made [.int a, .int (d : Int)] M = .ok (.tup [.int (a.fdiv (Nat.gcd a.natAbs d : Nat)), .int ((d / Nat.gcd a.natAbs d : Nat) : Int)]) M := by
  have g : gcdD [.int a, .int (d : Int)] M = .ok (.int ((Nat.gcd a.natAbs d : Nat) : Int)) M := by
    rw [gcd_ii, Int.natAbs_natCast]
  have d1 := div_g a d M hd bd
  have hg : 0 < Nat.gcd a.natAbs d := Nat.gcd_pos_of_pos_right _ hd
  have d2 := div_nn (a := d) (b := Nat.gcd a.natAbs d) M hg (by
    have := log_bits hg (Nat.le_trans (bits_mono (Nat.le_of_dvd hd (Nat.gcd_dvd_right a.natAbs d))) bd)
    omega)
  have n1 : ¬ (d : Int) < 0 := by omega
  unfold m_made b_made
  simp only [runB, sSeq, sIf, sNil, sPass, sCont, sPar, sAsg, sRet, sExpr, liftR, tAndM, tOrM, tNotM, tB, tTr, truD, e2, e1, eChain, eVar, eC, eL, eIf, eAnd, eOr, eNot, eTup, eLst, eBits, aCons, aNil, Res.bind, asgR, asgL, Pat.asg, List.map_cons, List.map_nil, List.set, Option.bind, Option.bind_some, List.getElem?_cons_succ, List.getElem?_cons_zero, List.length_cons, List.length_nil, List.replicate_succ, List.replicate_zero, List.cons_append, List.nil_append, Nat.reduceAdd, Nat.reduceSub, Nat.reduceLeDiff, Nat.zero_add, decide_true, decide_false, if_true, if_false, Bool.false_eq_true, Bool.not_true, Bool.not_false, eq_ii, ne_ii, lt_ii, gt_ii, le_ii, ge_ii, add_ii, sub_ii, g, n1, asgR, d1, d2]
theorem sd_t3 {a b k : Int} (ha : Builtin.Int.intBits a ≤ 400) (hb : Builtin.Int.intBits b ≤ 400) (hk : Builtin.Int.intBits k ≤ 400) (d : Nat) : Sd 1206 (d + 1) (T3 a b k) :=
  ((SdL.nil d).cons (sd_int hk d) |>.cons (sd_int hb d) |>.cons (sd_int ha d)).tup.up (by omega) (Nat.le_refl _)
theorem bits_mul (a b : Int) : Builtin.Int.intBits (a * b) ≤ Builtin.Int.intBits a + Builtin.Int.intBits b := by
  rw [← bits_abs (a * b), Int.natAbs_mul]
  refine bits_le ?_
  rw [Nat.pow_add]
  have h1 := (log_bits_i (Nat.le_refl (Builtin.Int.intBits a))).2
  have h2 := (log_bits_i (Nat.le_refl (Builtin.Int.intBits b))).2
  exact Nat.mul_lt_mul'' h1 h2
theorem bits_neg (a : Int) : Builtin.Int.intBits (0 - a) = Builtin.Int.intBits a := by
  rw [← bits_abs (0 - a), ← bits_abs a, show (0 - a).natAbs = a.natAbs by omega]
theorem bits_small {a : Int} (h1 : -1024 ≤ a) (h2 : a ≤ 1024) : Builtin.Int.intBits a ≤ 11 := by
  rw [← bits_abs a]
  exact bits_le (by omega)
theorem mul_b {a b : Int} (M : Mem) (ha : Builtin.Int.intBits a ≤ 400) (hb : Builtin.Int.intBits b ≤ 400) : mulI (.int a) (.int b) M = .ok (.int (a * b)) M := mul_ii M (by
  have := (log_bits_i ha).1
  have := (log_bits_i hb).1
  omega)
theorem tup_int3 {a b k : Int} : ∀ y ∈ ([.int a, .int b, .int k] : List D), Pl y := fun y hy => by
  simp only [List.mem_cons, List.not_mem_nil, or_false] at hy
  rcases hy with rfl | rfl | rfl <;> exact pl_int _
theorem pl3 {x y z : D} (hx : Pl x) (hy : Pl y) (hz : Pl z) : ∀ w ∈ [x, y, z], Pl w := fun w hw => by
  simp only [List.mem_cons, List.not_mem_nil, or_false] at hw
  rcases hw with rfl | rfl | rfl <;> assumption
theorem odd3 {x y z : D} (hx : Pl x) (hy : Pl y) (hz : Pl z) (h : ([x, y, z] : List D).all isI = false) : ∀ l, D.tup [x, y, z] = .tup l → (∀ y ∈ l, Pl y) ∧ l.length ≤ 1000 ∧ (l.length = 3 → l.all isI = false) := fun l e => by
  cases e
  exact ⟨pl3 hx hy hz, by simp, fun _ => h⟩
theorem draw_eq : m_law_draw = mDraw := rfl
theorem pick_eq : m_law_pick = runB 2 bPick := rfl
theorem deck_eq : m_law_deck = runB 4 bDeck := rfl
theorem same_eq : m_law_same = runB 2 bSame := rfl
theorem pick_of {M : Mem} {a n c : Nat} (D0 : Dk M a n c) (hc : c < 1000000) (l : List D) (h0 : 0 < l.length) (h1 : l.length < 1000) : ∃ (d : D) (M' : Mem), d ∈ l ∧ m_law_pick [.own n, .lst l] M = .ok d M' ∧ Dk M' a n (c + 1) ∧ Gw M M' a n := by
  rw [pick_eq]
  exact run_pick D0 hc h0 (by
    have : (1000 : Nat) < 2 ^ 60 := by decide
    omega)
theorem pick_int {M : Mem} {a n c : Nat} (D0 : Dk M a n c) (hc : c < 1000000) (L : List Int) (h0 : 0 < L.length) (h1 : L.length < 1000) (P : Int → Prop) (hP : ∀ i ∈ L, P i) : ∃ (i : Int) (M' : Mem), P i ∧ m_law_pick [.own n, .lst (L.map D.int)] M = .ok (.int i) M' ∧ Dk M' a n (c + 1) ∧ Gw M M' a n := by
  obtain ⟨d, M', hd, e, D1, g⟩ := pick_of D0 hc (L.map D.int) (by simpa using h0) (by simpa using h1)
  obtain ⟨i, hi, rfl⟩ := List.mem_map.mp hd
  exact ⟨i, M', hP i hi, e, D1, g⟩
theorem draw_int {M : Mem} {a n c : Nat} (D0 : Dk M a n c) (hc : c < 1000000) (m : Nat) (h0 : 0 < m) (h1 : m < 1000) : ∃ (r : Nat) (M' : Mem), r < m ∧ m_law_draw [.own n, .int (m : Int)] M = .ok (.int (r : Int)) M' ∧ Dk M' a n (c + 1) ∧ Gw M M' a n := by
  rw [draw_eq]
  obtain ⟨r, M', h, e, D1, g⟩ := run_draw D0 hc h0 (by
    have : (1000 : Nat) < 2 ^ 60 := by decide
    omega)
  exact ⟨r, M', h, e, D1, g.gw⟩
theorem same_of {x : D} {n d : Nat} (M : Mem) (h : Sd n d x) (hn : n ≤ 70000) (hd : d ≤ 40) : m_law_same [x, x] M = .ok (.bl true) M := by
  obtain ⟨p, e, s⟩ := h
  rw [same_eq]
  exact run_same (toPyM_of e M) (toPyM_of e M) (s.shw hn hd)
theorem app_step {M : Mem} {h : Nat} {l : List D} {E : DL.Env → Mem → Res D} {t : D} {o0 : Option D} {r : DL.Env} (hM : M[h]? = some (some (.lst l))) (hl : l.length < 1000) (hE : E (o0 :: some (.own h) :: r) M = .ok t M) : sExpr (eM "list" appendD (eVar 1) (aCons E aNil)) (o0 :: some (.own h) :: r) M = .nx (o0 :: some (.own h) :: r) (M.set h (some (.lst (l ++ [t])))) := by
  have ty : tyM "list" (.own h) M = true := by
    unfold tyM
    simp only [hM]
    rfl
  have ap : appendD (.own h) [t] M = .ok .non (M.set h (some (.lst (l ++ [t])))) := by
    unfold appendD
    simp only [hM]
    rw [if_pos (by omega)]
    rfl
  unfold sExpr eM
  simp only [eVar, List.getElem?_cons_succ, List.getElem?_cons_zero, Res.bind, ty, if_true, aCons, aNil, hE, ap, liftR]
/-- the things refused -/
structure Bad (x : D) : Prop where
  form : ∀ M, m_is_value_form [x] M = .ok (.bl false) M
  sd : Sd 2000 3 x
theorem bad_ints {a b k : Int} (h : ¬ IsV a b k) (ba : Builtin.Int.intBits a ≤ 400) (bb : Builtin.Int.intBits b ≤ 400) (bk : Builtin.Int.intBits k ≤ 400) (hk : k < 1000) : Bad (T3 a b k) := by
  refine ⟨fun M => ?_, (sd_t3 ba bb bk 0).up (by omega) (by omega)⟩
  obtain ⟨v, e, hv⟩ := ev_form_ints a b k M (by omega) (by omega) (by omega) (by omega)
  cases v with
  | false => exact e
  | true => exact absurd (hv.mp rfl) h
theorem sd_one {i : Int} (h1 : -1024 ≤ i) (h2 : i ≤ 1024) (d : Nat) : Sd 401 d (.int i) := sd_int (Nat.le_trans (bits_small h1 h2) (by omega)) d
theorem sd_chr (s : Str) (h : (s.cps.toList.all (fun c => decide (c < 16 ^ 8)) && decide (s.cps.size ≤ 100)) = true) (d : Nat) : Sd 100 d (.str s) := by
  obtain ⟨h1, h2⟩ := Bool.and_eq_true_iff.mp h
  exact ⟨_, rfl, sp_str h1 (of_decide_eq_true h2) d⟩
end K02
namespace K02
open PySem PySem.Spec DL NT
/-- a positive value, its numbers to 2 ^ s, its degree to m -/
structure V (s m x y z : Nat) : Prop where
  v : Vl x y z
  bx : x ≤ 2 ^ s
  by_ : y ≤ 2 ^ s
  bz : z ≤ m
theorem V.up {s m s' m' x y z : Nat} (h : V s m x y z) (hs : s ≤ s') (hm : m ≤ m') : V s' m' x y z :=
  ⟨h.v, Nat.le_trans h.bx (Nat.pow_le_pow_right (by decide) hs), Nat.le_trans h.by_ (Nat.pow_le_pow_right (by decide) hs), Nat.le_trans h.bz hm⟩
theorem bits_p {x s : Nat} (h : x ≤ 2 ^ s) : Builtin.Int.intBits (x : Int) ≤ s + 1 := bits_le (Nat.lt_of_le_of_lt h (by rw [Nat.pow_succ]; have := Nat.pow_pos (n := s) (show 0 < 2 by decide); omega))
theorem Vl.isV {x y z : Nat} (h : Vl x y z) : IsV (x : Int) (y : Int) (z : Int) := by
  have h1 := h.x0
  have h2 := h.y0
  have h3 := h.z0
  refine ⟨by omega, by omega, ?_, ?_⟩
  · rw [Int.natAbs_natCast, Int.natAbs_natCast]
    exact h.co
  · refine .inr ⟨by omega, ?_⟩
    rw [Int.natAbs_natCast, Int.natAbs_natCast, Int.natAbs_natCast]
    exact h.rd
theorem ev_form_ok {a b k : Int} (M : Mem) (h : IsV a b k) (ba : Builtin.Int.intBits a ≤ 5000) (bb : Builtin.Int.intBits b ≤ 5000) (hk : k < 100000) : m_is_value_form [T3 a b k] M = .ok (.bl true) M := by
  have k1 := h.2.1
  obtain ⟨v, e, hv⟩ := ev_form_ints a b k M ba bb hk (by
    have : k = (k.toNat : Int) := by omega
    rw [this]
    exact Nat.le_trans (bits_le (k := 17) (by omega)) (by omega))
  rw [hv.mpr h] at e
  exact e
theorem ev_need_ok {a b k : Int} (M : Mem) (h : IsV a b k) (ba : Builtin.Int.intBits a ≤ 5000) (bb : Builtin.Int.intBits b ≤ 5000) (hk : k < 100000) : m_need_value [T3 a b k] M = .ok .non M := by
  have e := ev_form_ok M h ba bb hk
  unfold m_need_value b_need_value
  simp only [runB, sSeq, sIf, sNil, sPass, sCont, sPar, sAsg, sRet, sExpr, liftR, tAndM, tOrM, tNotM, tB, tTr, truD, e2, e1, eChain, eVar, eC, eL, eIf, eAnd, eOr, eNot, eTup, eLst, eBits, aCons, aNil, Res.bind, asgR, asgL, Pat.asg, List.map_cons, List.map_nil, List.set, Option.bind, Option.bind_some, List.getElem?_cons_succ, List.getElem?_cons_zero, List.length_cons, List.length_nil, List.replicate_succ, List.replicate_zero, List.cons_append, List.nil_append, Nat.reduceAdd, Nat.reduceSub, Nat.reduceLeDiff, Nat.zero_add, decide_true, decide_false, if_true, if_false, Bool.false_eq_true, Bool.not_true, Bool.not_false, eq_ii, ne_ii, lt_ii, gt_ii, le_ii, ge_ii, add_ii, sub_ii, e]
theorem V.need {s m a b c : Nat} (h : V s m a b c) (hs : s ≤ 4000) (hm : m ≤ 1000) (M : Mem) : m_need_value [T3 a b c] M = .ok .non M := by
  have := bits_p h.bx
  have := bits_p h.by_
  have := h.bz
  exact ev_need_ok M (Vl.isV h.v) (by omega) (by omega) (by omega)
theorem V.form {s m a b c : Nat} (h : V s m a b c) (hs : s ≤ 4000) (hm : m ≤ 1000) (M : Mem) : m_is_value_form [T3 a b c] M = .ok (.bl true) M := by
  have := bits_p h.bx
  have := bits_p h.by_
  have := h.bz
  exact ev_form_ok M (Vl.isV h.v) (by omega) (by omega) (by omega)
theorem ev_lowest2 (n d k : Nat) (hn : 0 < n) (hd : 0 < d) (hk : 0 < k) (hk2 : k < 100000) (bn : Builtin.Int.intBits (n : Int) ≤ 5000) (bd : Builtin.Int.intBits (d : Int) ≤ 5000) :
    ∃ x y z : Nat, (∀ M, m_lowest [.int (n : Int), .int (d : Int), .int (k : Int)] M = .ok (T3 x y z) M) ∧ LowN (n / Nat.gcd n d) (d / Nat.gcd n d) k x y z := by
  obtain ⟨x, y, z, _, h⟩ := ev_lowest n d k [] hn hd hk hk2 bn bd
  refine ⟨x, y, z, fun M => ?_, h⟩
  obtain ⟨x', y', z', e, h'⟩ := ev_lowest n d k M hn hd hk hk2 bn bd
  obtain ⟨rfl, rfl, rfl⟩ := Low.unique h' h
  exact e
/-- the program's lowest form and the law's own are one -/
theorem ev_low_both (n d k : Nat) (hn : 0 < n) (hd : 0 < d) (hk : 0 < k) (hk2 : k < 1024) (bn : Builtin.Int.intBits (n : Int) ≤ 5000) (bd : Builtin.Int.intBits (d : Int) ≤ 5000) :
    ∃ x y z : Nat, (∀ M, m_lowest [.int (n : Int), .int (d : Int), .int (k : Int)] M = .ok (T3 x y z) M) ∧ (∀ M, m_law_value [.int (n : Int), .int (d : Int), .int (k : Int)] M = .ok (T3 x y z) M) ∧ LowN (n / Nat.gcd n d) (d / Nat.gcd n d) k x y z := by
  obtain ⟨x, y, z, e, h⟩ := ev_lowest2 n d k hn hd hk (by omega) bn bd
  refine ⟨x, y, z, e, fun M => ?_, h⟩
  obtain ⟨x', y', z', e3, h'⟩ := ev_law_value n d k M hn hd hk hk2 bn bd
  obtain ⟨rfl, rfl, rfl⟩ := Low.unique h' h
  exact e3
theorem pow_le2 {a s e E : Nat} (h : a ≤ 2 ^ s) (he : e ≤ E) : a ^ e ≤ 2 ^ (s * E) := by
  refine Nat.le_trans (Nat.pow_le_pow_left h e) ?_
  rw [← Nat.pow_mul]
  exact Nat.pow_le_pow_right (by decide) (Nat.mul_le_mul_left s he)
theorem mul_le2 {a b s t : Nat} (h : a ≤ 2 ^ s) (h2 : b ≤ 2 ^ t) : a * b ≤ 2 ^ (s + t) := by
  rw [Nat.pow_add]
  exact Nat.mul_le_mul h h2
theorem lcm_div {c c' n : Nat} (h0 : 0 < c) (h0' : 0 < c') (h : c' ≤ n) : Nat.lcm c c' / c ≤ n := by
  have hle : Nat.lcm c c' ≤ c * c' := Nat.le_of_dvd (Nat.mul_pos h0 h0') (Nat.lcm_dvd_mul c c')
  have := Nat.div_le_div_right (c := c) hle
  rw [Nat.mul_div_cancel_left _ h0] at this
  omega
theorem mul_p {a b s t : Nat} (M : Mem) (ha : a ≤ 2 ^ s) (hb : b ≤ 2 ^ t) (h : s + t < 1000000) : mulI (.int (a : Int)) (.int (b : Int)) M = .ok (.int ((a * b : Nat) : Int)) M := mul_nn M (by
  have := log_le ha
  have := log_le hb
  omega)
/-- two positive values multiplied, not both fractions -/
theorem ev_roots {a b c a' b' c' s t m n : Nat} (va : V s m a b c) (vb : V t n a' b' c') (hs : s * n + t * m ≤ 4000) (hm : m ≤ 30) (hn : n ≤ 30) :
    ∃ x y z : Nat, (∀ M, m_multiplied_roots [T3 a b c, T3 a' b' c'] M = .ok (T3 x y z) M) ∧ (¬ (c = 1 ∧ c' = 1) → ∀ M, m_law_times [T3 a b c, T3 a' b' c'] M = .ok (T3 x y z) M) ∧
      LowN ((a ^ (Nat.lcm c c' / c) * a' ^ (Nat.lcm c c' / c')) / Nat.gcd (a ^ (Nat.lcm c c' / c) * a' ^ (Nat.lcm c c' / c')) (b ^ (Nat.lcm c c' / c) * b' ^ (Nat.lcm c c' / c')))
        ((b ^ (Nat.lcm c c' / c) * b' ^ (Nat.lcm c c' / c')) / Nat.gcd (a ^ (Nat.lcm c c' / c) * a' ^ (Nat.lcm c c' / c')) (b ^ (Nat.lcm c c' / c) * b' ^ (Nat.lcm c c' / c'))) (Nat.lcm c c') x y z := by
  have c0 := va.v.z0
  have c0' := vb.v.z0
  have hc : c ≤ 30 := Nat.le_trans va.bz hm
  have hc' : c' ≤ 30 := Nat.le_trans vb.bz hn
  have mult := fun M => ev_law_multiple c c' M c0 c0' hc hc'
  have lcm := fun M => lcm_nn c c' M (by omega) (by omega)
  have hL0 : 0 < Nat.lcm c c' := Nat.lcm_pos c0 c0'
  have hL : Nat.lcm c c' ≤ 900 := Nat.le_trans (Nat.le_of_dvd (Nat.mul_pos c0 c0') (Nat.lcm_dvd_mul c c')) (Nat.mul_le_mul hc hc')
  have hu : Nat.lcm c c' / c ≤ n := lcm_div c0 c0' vb.bz
  have hv : Nat.lcm c c' / c' ≤ m := by
    rw [Nat.lcm_comm]
    exact lcm_div c0' c0 va.bz
  have d1 := fun M => div_nn (a := Nat.lcm c c') (b := c) M c0 (by have := log64 (a := c) (by omega); omega)
  have d2 := fun M => div_nn (a := Nat.lcm c c') (b := c') M c0' (by have := log64 (a := c') (by omega); omega)
  generalize Nat.lcm c c' = L at *
  generalize L / c = u at *
  generalize L / c' = v at *
  have sn : s * n ≤ 4000 := by omega
  have tm : t * m ≤ 4000 := by omega
  have su : s * u ≤ 4000 := Nat.le_trans (Nat.mul_le_mul_left s hu) sn
  have tv : t * v ≤ 4000 := Nat.le_trans (Nat.mul_le_mul_left t hv) tm
  have pa := fun M => ev_whole_power a u s M va.bx (by omega) (by omega)
  have pb := fun M => ev_whole_power b u s M va.by_ (by omega) (by omega)
  have pa' := fun M => ev_whole_power a' v t M vb.bx (by omega) (by omega)
  have pb' := fun M => ev_whole_power b' v t M vb.by_ (by omega) (by omega)
  have qa := fun M => ev_law_pow a u s M va.bx (by omega) (by omega)
  have qb := fun M => ev_law_pow b u s M va.by_ (by omega) (by omega)
  have qa' := fun M => ev_law_pow a' v t M vb.bx (by omega) (by omega)
  have qb' := fun M => ev_law_pow b' v t M vb.by_ (by omega) (by omega)
  have la := pow_le2 va.bx hu
  have lb := pow_le2 va.by_ hu
  have la' := pow_le2 vb.bx hv
  have lb' := pow_le2 vb.by_ hv
  have m1 := fun M => mul_p M la la' (by omega)
  have m2 := fun M => mul_p M lb lb' (by omega)
  have p1 : 0 < a ^ u * a' ^ v := Nat.mul_pos (Nat.pow_pos va.v.x0) (Nat.pow_pos vb.v.x0)
  have p2 : 0 < b ^ u * b' ^ v := Nat.mul_pos (Nat.pow_pos va.v.y0) (Nat.pow_pos vb.v.y0)
  have b1 := bits_p (mul_le2 la la')
  have b2 := bits_p (mul_le2 lb lb')
  obtain ⟨x, y, z, ep, el, hl⟩ := ev_low_both (a ^ u * a' ^ v) (b ^ u * b' ^ v) L p1 p2 hL0 (by omega) (by omega) (by omega)
  refine ⟨x, y, z, fun M => ?_, fun hne M => ?_, hl⟩
  · have ep := ep M
    have m1 := m1 M
    have m2 := m2 M
    generalize a ^ u * a' ^ v = N at *
    generalize b ^ u * b' ^ v = Dn at *
    unfold m_multiplied_roots b_multiplied_roots
    simp only [runB, sSeq, sIf, sNil, sPass, sCont, sPar, sAsg, sRet, sExpr, liftR, tAndM, tOrM, tNotM, tB, tTr, truD, e2, e1, eChain, eVar, eC, eL, eIf, eAnd, eOr, eNot, eTup, eLst, eBits, aCons, aNil, Res.bind, asgR, asgL, Pat.asg, List.map_cons, List.map_nil, List.set, Option.bind, Option.bind_some, List.getElem?_cons_succ, List.getElem?_cons_zero, List.length_cons, List.length_nil, List.replicate_succ, List.replicate_zero, List.cons_append, List.nil_append, Nat.reduceAdd, Nat.reduceSub, Nat.reduceLeDiff, Nat.zero_add, decide_true, decide_false, if_true, if_false, Bool.false_eq_true, Bool.not_true, Bool.not_false, eq_ii, ne_ii, lt_ii, gt_ii, le_ii, ge_ii, add_ii, sub_ii, ix0, ix1, ix2, lcm M, asgR, d1 M, d2 M, pa M, pa' M, m1, pb M, pb' M, m2, ep]
  · have el := el M
    have m1 := m1 M
    have m2 := m2 M
    generalize a ^ u * a' ^ v = N at *
    generalize b ^ u * b' ^ v = Dn at *
    have ts : tAndM (tB (e2 eqD (e2 ixD (eVar 0) (eC (.int 2))) (eC (.int 1)))) (tB (e2 eqD (e2 ixD (eVar 1) (eC (.int 2))) (eC (.int 1)))) [some (T3 a b c), some (T3 a' b' c'), none, none, none] M = .ok false M := by
      by_cases h1 : c = 1
      · have h1' : (c : Int) = 1 := by omega
        have h2' : ¬ (c' : Int) = 1 := fun e => hne ⟨h1, by omega⟩
        simp only [runB, sSeq, sIf, sNil, sPass, sCont, sPar, sAsg, sRet, sExpr, liftR, tAndM, tOrM, tNotM, tB, tTr, truD, e2, e1, eChain, eVar, eC, eL, eIf, eAnd, eOr, eNot, eTup, eLst, eBits, aCons, aNil, Res.bind, asgR, asgL, Pat.asg, List.map_cons, List.map_nil, List.set, Option.bind, Option.bind_some, List.getElem?_cons_succ, List.getElem?_cons_zero, List.length_cons, List.length_nil, List.replicate_succ, List.replicate_zero, List.cons_append, List.nil_append, Nat.reduceAdd, Nat.reduceSub, Nat.reduceLeDiff, Nat.zero_add, decide_true, decide_false, if_true, if_false, Bool.false_eq_true, Bool.not_true, Bool.not_false, eq_ii, ne_ii, lt_ii, gt_ii, le_ii, ge_ii, add_ii, sub_ii, ix2, h1', h2']
      · have h1' : ¬ (c : Int) = 1 := by omega
        simp only [runB, sSeq, sIf, sNil, sPass, sCont, sPar, sAsg, sRet, sExpr, liftR, tAndM, tOrM, tNotM, tB, tTr, truD, e2, e1, eChain, eVar, eC, eL, eIf, eAnd, eOr, eNot, eTup, eLst, eBits, aCons, aNil, Res.bind, asgR, asgL, Pat.asg, List.map_cons, List.map_nil, List.set, Option.bind, Option.bind_some, List.getElem?_cons_succ, List.getElem?_cons_zero, List.length_cons, List.length_nil, List.replicate_succ, List.replicate_zero, List.cons_append, List.nil_append, Nat.reduceAdd, Nat.reduceSub, Nat.reduceLeDiff, Nat.zero_add, decide_true, decide_false, if_true, if_false, Bool.false_eq_true, Bool.not_true, Bool.not_false, eq_ii, ne_ii, lt_ii, gt_ii, le_ii, ge_ii, add_ii, sub_ii, ix2, h1']
    unfold m_law_times b_law_times
    refine run_rt ((seq_nx ((if_ff ts).trans rfl)).trans ?_)
    simp only [runB, sSeq, sIf, sNil, sPass, sCont, sPar, sAsg, sRet, sExpr, liftR, tAndM, tOrM, tNotM, tB, tTr, truD, e2, e1, eChain, eVar, eC, eL, eIf, eAnd, eOr, eNot, eTup, eLst, eBits, aCons, aNil, Res.bind, asgR, asgL, Pat.asg, List.map_cons, List.map_nil, List.set, Option.bind, Option.bind_some, List.getElem?_cons_succ, List.getElem?_cons_zero, List.length_cons, List.length_nil, List.replicate_succ, List.replicate_zero, List.cons_append, List.nil_append, Nat.reduceAdd, Nat.reduceSub, Nat.reduceLeDiff, Nat.zero_add, decide_true, decide_false, if_true, if_false, Bool.false_eq_true, Bool.not_true, Bool.not_false, eq_ii, ne_ii, lt_ii, gt_ii, le_ii, ge_ii, add_ii, sub_ii, ix0, ix1, ix2, mult M, asgR, d1 M, d2 M, qa M, qa' M, m1, qb M, qb' M, m2, el]
theorem LowN.v {n d k x y z s m : Nat} (h : LowN (n / Nat.gcd n d) (d / Nat.gcd n d) k x y z) (hn : 0 < n) (hd : 0 < d) (bn : n ≤ 2 ^ s) (bd : d ≤ 2 ^ s) (bk : k ≤ m) : V s m x y z := by
  obtain ⟨h1, h2, h3, _⟩ := Low.bd hn hd h
  exact ⟨Low.vl2 hn h, Nat.le_trans h1 bn, Nat.le_trans h2 bd, Nat.le_trans h3 bk⟩
theorem gcd_z {n d : Nat} (hn : 0 < n) (hd : 0 < d) : LowN (n / Nat.gcd n d) (d / Nat.gcd n d) 1 (n / Nat.gcd n d) (d / Nat.gcd n d) 1 :=
  ⟨Nat.div_pos (Nat.le_of_dvd hn (Nat.gcd_dvd_left n d)) (Nat.gcd_pos_of_pos_left _ hn), Nat.div_pos (Nat.le_of_dvd hd (Nat.gcd_dvd_right n d)) (Nat.gcd_pos_of_pos_left _ hn), by omega, red_one, 1, by omega, by simp, by simp, by simp⟩
theorem fdiv_nn (n g : Nat) : ((n : Int)).fdiv (g : Int) = ((n / g : Nat) : Int) := by
  rw [Int.fdiv_eq_ediv_of_nonneg _ (by omega), ← Int.natCast_ediv]
theorem add_t2 (x y z : D) (M : Mem) : addD (.tup [x, y]) (.tup [z]) M = .ok (.tup [x, y, z]) M := if_pos (e := Res.bad) (by decide : 2 + 1 ≤ 1000000)
theorem star_t2 {m : DL.Env → Mem → Res D} {mr : DL.Env → Mem → Res (List D)} {ρ : DL.Env} {M M1 M2 : Mem} {x y : D} {ys : List D} (h : m ρ M = .ok (.tup [x, y]) M1) (h2 : mr ρ M1 = .ok ys M2) : aStar m mr ρ M = .ok (x :: y :: ys) M2 := by
  unfold aStar
  rw [h]
  show (mr ρ M1).bind _ = _
  rw [h2]
  rfl
/-- times, as the program and as the law tell it -/
theorem ev_times {a b c a' b' c' s t m n : Nat} (va : V s m a b c) (vb : V t n a' b' c') (hs : s * n + t * m ≤ 4000) (hm : m ≤ 30) (hn : n ≤ 30) :
    ∃ x y z : Nat, (∀ M, m_times [T3 a b c, T3 a' b' c'] M = .ok (T3 x y z) M) ∧ (∀ M, m_law_times [T3 a b c, T3 a' b' c'] M = .ok (T3 x y z) M) ∧ V (s * n + t * m) (m * n) x y z ∧
      ∀ {K p q p' q'}, Ev K a b c p q → Ev K a' b' c' p' q' → Ev K x y z (p * p') (q * q') := by
  have c0 := va.v.z0
  have c0' := vb.v.z0
  have n0 : 0 < n := Nat.lt_of_lt_of_le c0' vb.bz
  have m0 : 0 < m := Nat.lt_of_lt_of_le c0 va.bz
  have ss : s ≤ s * n := Nat.le_mul_of_pos_right s n0
  have tt : t ≤ t * m := Nat.le_mul_of_pos_right t m0
  have na := fun M => va.need (by omega) (by omega) M
  have nb := fun M => vb.need (by omega) (by omega) M
  obtain ⟨x, y, z, ep, el, hl⟩ := ev_roots va vb hs hm hn
  have hu : Nat.lcm c c' / c ≤ n := lcm_div c0 c0' vb.bz
  have hv : Nat.lcm c c' / c' ≤ m := by
    rw [Nat.lcm_comm]
    exact lcm_div c0' c0 va.bz
  have hL : Nat.lcm c c' ≤ m * n := Nat.le_trans (Nat.le_of_dvd (Nat.mul_pos c0 c0') (Nat.lcm_dvd_mul c c')) (Nat.mul_le_mul va.bz vb.bz)
  have p1 : 0 < a ^ (Nat.lcm c c' / c) * a' ^ (Nat.lcm c c' / c') := Nat.mul_pos (Nat.pow_pos va.v.x0) (Nat.pow_pos vb.v.x0)
  have p2 : 0 < b ^ (Nat.lcm c c' / c) * b' ^ (Nat.lcm c c' / c') := Nat.mul_pos (Nat.pow_pos va.v.y0) (Nat.pow_pos vb.v.y0)
  have b1 := mul_le2 (pow_le2 va.bx hu) (pow_le2 vb.bx hv)
  have b2 := mul_le2 (pow_le2 va.by_ hu) (pow_le2 vb.by_ hv)
  have hV : ∀ {x y z}, LowN ((a ^ (Nat.lcm c c' / c) * a' ^ (Nat.lcm c c' / c')) / Nat.gcd (a ^ (Nat.lcm c c' / c) * a' ^ (Nat.lcm c c' / c')) (b ^ (Nat.lcm c c' / c) * b' ^ (Nat.lcm c c' / c')))
        ((b ^ (Nat.lcm c c' / c) * b' ^ (Nat.lcm c c' / c')) / Nat.gcd (a ^ (Nat.lcm c c' / c) * a' ^ (Nat.lcm c c' / c')) (b ^ (Nat.lcm c c' / c) * b' ^ (Nat.lcm c c' / c'))) (Nat.lcm c c') x y z →
      V (s * n + t * m) (m * n) x y z ∧ ∀ {K p q p' q'}, Ev K a b c p q → Ev K a' b' c' p' q' → Ev K x y z (p * p') (q * q') := fun h =>
    ⟨LowN.v h p1 p2 b1 b2 hL, fun h1 h2 => Ev.mul va.v vb.v h rfl rfl rfl h1 h2⟩
  by_cases h1 : c = 1 ∧ c' = 1
  · obtain ⟨rfl, rfl⟩ := h1
    have e1 : Nat.lcm 1 1 = 1 := by decide
    simp only [e1, Nat.div_self (show 0 < 1 by omega), Nat.pow_one] at hV p1 p2
    have lo := gcd_z p1 p2
    have ba := bits_p va.by_
    have ba' := bits_p vb.by_
    have bx := bits_p va.bx
    have bx' := bits_p vb.bx
    have bd : Builtin.Int.intBits ((b * b' : Nat) : Int) ≤ 5000 := Nat.le_trans (bits_p (mul_le2 va.by_ vb.by_)) (by omega)
    have bn : Builtin.Int.intBits ((a * a' : Nat) : Int) ≤ 5000 := Nat.le_trans (bits_p (mul_le2 va.bx vb.bx)) (by omega)
    have m1 := fun M => mul_p M va.bx vb.bx (by omega)
    have m2 := fun M => mul_p M va.by_ vb.by_ (by omega)
    refine ⟨_, _, _, fun M => ?_, fun M => ?_, hV lo⟩
    · have md := ev_made ((a * a' : Nat) : Int) (b * b') M p2 bd
      rw [Int.natAbs_natCast, fdiv_nn] at md
      have na := na M
      have nb := nb M
      have m1 := m1 M
      have m2 := m2 M
      have one : ((1 : Nat) : Int) = 1 := rfl
      unfold m_times b_times
      refine run_rt ((seq_nx (ρ1 := [some (T3 a b (1 : Nat)), some (T3 a' b' (1 : Nat)), none]) (M1 := M) (by simp only [runB, sSeq, sIf, sNil, sPass, sCont, sPar, sAsg, sRet, sExpr, liftR, tAndM, tOrM, tNotM, tB, tTr, truD, e2, e1, eChain, eVar, eC, eL, eIf, eAnd, eOr, eNot, eTup, eLst, eBits, aCons, aNil, Res.bind, asgR, asgL, Pat.asg, List.map_cons, List.map_nil, List.set, Option.bind, Option.bind_some, List.getElem?_cons_succ, List.getElem?_cons_zero, List.length_cons, List.length_nil, List.replicate_succ, List.replicate_zero, List.cons_append, List.nil_append, Nat.reduceAdd, Nat.reduceSub, Nat.reduceLeDiff, Nat.zero_add, decide_true, decide_false, if_true, if_false, Bool.false_eq_true, Bool.not_true, Bool.not_false, eq_ii, ne_ii, lt_ii, gt_ii, le_ii, ge_ii, add_ii, sub_ii, na])).trans ((seq_nx (ρ1 := [some (T3 a b (1 : Nat)), some (T3 a' b' (1 : Nat)), none]) (M1 := M) (by simp only [runB, sSeq, sIf, sNil, sPass, sCont, sPar, sAsg, sRet, sExpr, liftR, tAndM, tOrM, tNotM, tB, tTr, truD, e2, e1, eChain, eVar, eC, eL, eIf, eAnd, eOr, eNot, eTup, eLst, eBits, aCons, aNil, Res.bind, asgR, asgL, Pat.asg, List.map_cons, List.map_nil, List.set, Option.bind, Option.bind_some, List.getElem?_cons_succ, List.getElem?_cons_zero, List.length_cons, List.length_nil, List.replicate_succ, List.replicate_zero, List.cons_append, List.nil_append, Nat.reduceAdd, Nat.reduceSub, Nat.reduceLeDiff, Nat.zero_add, decide_true, decide_false, if_true, if_false, Bool.false_eq_true, Bool.not_true, Bool.not_false, eq_ii, ne_ii, lt_ii, gt_ii, le_ii, ge_ii, add_ii, sub_ii, nb])).trans (seq_rt ((if_tt (M1 := M) (by simp only [runB, sSeq, sIf, sNil, sPass, sCont, sPar, sAsg, sRet, sExpr, liftR, tAndM, tOrM, tNotM, tB, tTr, truD, e2, e1, eChain, eVar, eC, eL, eIf, eAnd, eOr, eNot, eTup, eLst, eBits, aCons, aNil, Res.bind, asgR, asgL, Pat.asg, List.map_cons, List.map_nil, List.set, Option.bind, Option.bind_some, List.getElem?_cons_succ, List.getElem?_cons_zero, List.length_cons, List.length_nil, List.replicate_succ, List.replicate_zero, List.cons_append, List.nil_append, Nat.reduceAdd, Nat.reduceSub, Nat.reduceLeDiff, Nat.zero_add, decide_true, decide_false, if_true, if_false, Bool.false_eq_true, Bool.not_true, Bool.not_false, eq_ii, ne_ii, lt_ii, gt_ii, le_ii, ge_ii, add_ii, sub_ii, ix2, one])).trans ?_))))
      have st := star_t2 (m := (eL m_made (aCons (e2 mulI (e2 ixD (eVar 0) (eC (.int 0))) (e2 ixD (eVar 1) (eC (.int 0)))) (aCons (e2 mulI (e2 ixD (eVar 0) (eC (.int 1))) (e2 ixD (eVar 1) (eC (.int 1)))) aNil)))) (mr := aCons (eC (.int 1)) aNil) (ρ := [some (T3 a b (1 : Nat)), some (T3 a' b' (1 : Nat)), none]) (M := M) (M1 := M) (M2 := M) (by simp only [runB, sSeq, sIf, sNil, sPass, sCont, sPar, sAsg, sRet, sExpr, liftR, tAndM, tOrM, tNotM, tB, tTr, truD, e2, e1, eChain, eVar, eC, eL, eIf, eAnd, eOr, eNot, eTup, eLst, eBits, aCons, aNil, Res.bind, asgR, asgL, Pat.asg, List.map_cons, List.map_nil, List.set, Option.bind, Option.bind_some, List.getElem?_cons_succ, List.getElem?_cons_zero, List.length_cons, List.length_nil, List.replicate_succ, List.replicate_zero, List.cons_append, List.nil_append, Nat.reduceAdd, Nat.reduceSub, Nat.reduceLeDiff, Nat.zero_add, decide_true, decide_false, if_true, if_false, Bool.false_eq_true, Bool.not_true, Bool.not_false, eq_ii, ne_ii, lt_ii, gt_ii, le_ii, ge_ii, add_ii, sub_ii, ix0, ix1, m1, m2, md]; rfl) rfl
      unfold sRet eTup
      rw [st]
      rfl
    · have md := ev_law_low ((a * a' : Nat) : Int) (b * b') M p2 (by rw [Int.natAbs_natCast]; exact bn) bd
      rw [Int.natAbs_natCast, fdiv_nn] at md
      have m1 := m1 M
      have m2 := m2 M
      have lm : m_law_mul [.tup [.int (a : Int), .int (b : Int)], .tup [.int (a' : Int), .int (b' : Int)]] M = .ok (.tup [.int ((a * a' / Nat.gcd (a * a') (b * b') : Nat) : Int), .int ((b * b' / Nat.gcd (a * a') (b * b') : Nat) : Int)]) M := by
        unfold m_law_mul b_law_mul
        simp only [runB, sSeq, sIf, sNil, sPass, sCont, sPar, sAsg, sRet, sExpr, liftR, tAndM, tOrM, tNotM, tB, tTr, truD, e2, e1, eChain, eVar, eC, eL, eIf, eAnd, eOr, eNot, eTup, eLst, eBits, aCons, aNil, Res.bind, asgR, asgL, Pat.asg, List.map_cons, List.map_nil, List.set, Option.bind, Option.bind_some, List.getElem?_cons_succ, List.getElem?_cons_zero, List.length_cons, List.length_nil, List.replicate_succ, List.replicate_zero, List.cons_append, List.nil_append, Nat.reduceAdd, Nat.reduceSub, Nat.reduceLeDiff, Nat.zero_add, decide_true, decide_false, if_true, if_false, Bool.false_eq_true, Bool.not_true, Bool.not_false, eq_ii, ne_ii, lt_ii, gt_ii, le_ii, ge_ii, add_ii, sub_ii, ix0, ix1, m1, m2, md]
      have one : ((1 : Nat) : Int) = 1 := rfl
      unfold m_law_times b_law_times
      simp only [runB, sSeq, sIf, sNil, sPass, sCont, sPar, sAsg, sRet, sExpr, liftR, tAndM, tOrM, tNotM, tB, tTr, truD, e2, e1, eChain, eVar, eC, eL, eIf, eAnd, eOr, eNot, eTup, eLst, eBits, aCons, aNil, Res.bind, asgR, asgL, Pat.asg, List.map_cons, List.map_nil, List.set, Option.bind, Option.bind_some, List.getElem?_cons_succ, List.getElem?_cons_zero, List.length_cons, List.length_nil, List.replicate_succ, List.replicate_zero, List.cons_append, List.nil_append, Nat.reduceAdd, Nat.reduceSub, Nat.reduceLeDiff, Nat.zero_add, decide_true, decide_false, if_true, if_false, Bool.false_eq_true, Bool.not_true, Bool.not_false, eq_ii, ne_ii, lt_ii, gt_ii, le_ii, ge_ii, add_ii, sub_ii, ix2, one, eSl, oNone, oSome, sl2, lm, add_t2]
  · refine ⟨x, y, z, fun M => ?_, el h1, hV hl⟩
    have na := na M
    have nb := nb M
    have ep := ep M
    have g1 : ¬ (a : Int) ≤ 0 := by have := va.v.x0; omega
    have g2 : ¬ (a' : Int) ≤ 0 := by have := vb.v.x0; omega
    have ch : eChain eqD eqD (e2 ixD (eVar 0) (eC (.int 2))) (e2 ixD (eVar 1) (eC (.int 2))) (eC (.int 1)) [some (T3 a b c), some (T3 a' b' c'), none] M = .ok (.bl false) M := by
      by_cases q : c = c'
      · subst q
        have q2 : ¬ (c : Int) = 1 := fun e => h1 ⟨by omega, by omega⟩
        simp only [runB, sSeq, sIf, sNil, sPass, sCont, sPar, sAsg, sRet, sExpr, liftR, tAndM, tOrM, tNotM, tB, tTr, truD, e2, e1, eChain, eVar, eC, eL, eIf, eAnd, eOr, eNot, eTup, eLst, eBits, aCons, aNil, Res.bind, asgR, asgL, Pat.asg, List.map_cons, List.map_nil, List.set, Option.bind, Option.bind_some, List.getElem?_cons_succ, List.getElem?_cons_zero, List.length_cons, List.length_nil, List.replicate_succ, List.replicate_zero, List.cons_append, List.nil_append, Nat.reduceAdd, Nat.reduceSub, Nat.reduceLeDiff, Nat.zero_add, decide_true, decide_false, if_true, if_false, Bool.false_eq_true, Bool.not_true, Bool.not_false, eq_ii, ne_ii, lt_ii, gt_ii, le_ii, ge_ii, add_ii, sub_ii, ix2, q2]
      · have q2 : ¬ (c : Int) = (c' : Int) := by omega
        simp only [runB, sSeq, sIf, sNil, sPass, sCont, sPar, sAsg, sRet, sExpr, liftR, tAndM, tOrM, tNotM, tB, tTr, truD, e2, e1, eChain, eVar, eC, eL, eIf, eAnd, eOr, eNot, eTup, eLst, eBits, aCons, aNil, Res.bind, asgR, asgL, Pat.asg, List.map_cons, List.map_nil, List.set, Option.bind, Option.bind_some, List.getElem?_cons_succ, List.getElem?_cons_zero, List.length_cons, List.length_nil, List.replicate_succ, List.replicate_zero, List.cons_append, List.nil_append, Nat.reduceAdd, Nat.reduceSub, Nat.reduceLeDiff, Nat.zero_add, decide_true, decide_false, if_true, if_false, Bool.false_eq_true, Bool.not_true, Bool.not_false, eq_ii, ne_ii, lt_ii, gt_ii, le_ii, ge_ii, add_ii, sub_ii, ix2, q2]
    unfold m_times b_times
    refine run_rt ((seq_nx (ρ1 := [some (T3 a b c), some (T3 a' b' c'), none]) (M1 := M) (by simp only [runB, sSeq, sIf, sNil, sPass, sCont, sPar, sAsg, sRet, sExpr, liftR, tAndM, tOrM, tNotM, tB, tTr, truD, e2, e1, eChain, eVar, eC, eL, eIf, eAnd, eOr, eNot, eTup, eLst, eBits, aCons, aNil, Res.bind, asgR, asgL, Pat.asg, List.map_cons, List.map_nil, List.set, Option.bind, Option.bind_some, List.getElem?_cons_succ, List.getElem?_cons_zero, List.length_cons, List.length_nil, List.replicate_succ, List.replicate_zero, List.cons_append, List.nil_append, Nat.reduceAdd, Nat.reduceSub, Nat.reduceLeDiff, Nat.zero_add, decide_true, decide_false, if_true, if_false, Bool.false_eq_true, Bool.not_true, Bool.not_false, eq_ii, ne_ii, lt_ii, gt_ii, le_ii, ge_ii, add_ii, sub_ii, na])).trans ((seq_nx (ρ1 := [some (T3 a b c), some (T3 a' b' c'), none]) (M1 := M) (by simp only [runB, sSeq, sIf, sNil, sPass, sCont, sPar, sAsg, sRet, sExpr, liftR, tAndM, tOrM, tNotM, tB, tTr, truD, e2, e1, eChain, eVar, eC, eL, eIf, eAnd, eOr, eNot, eTup, eLst, eBits, aCons, aNil, Res.bind, asgR, asgL, Pat.asg, List.map_cons, List.map_nil, List.set, Option.bind, Option.bind_some, List.getElem?_cons_succ, List.getElem?_cons_zero, List.length_cons, List.length_nil, List.replicate_succ, List.replicate_zero, List.cons_append, List.nil_append, Nat.reduceAdd, Nat.reduceSub, Nat.reduceLeDiff, Nat.zero_add, decide_true, decide_false, if_true, if_false, Bool.false_eq_true, Bool.not_true, Bool.not_false, eq_ii, ne_ii, lt_ii, gt_ii, le_ii, ge_ii, add_ii, sub_ii, nb])).trans ((seq_nx ((if_ff (M1 := M) (by unfold tB; rw [ch]; rfl)).trans rfl)).trans ?_)))
    simp only [runB, sSeq, sIf, sNil, sPass, sCont, sPar, sAsg, sRet, sExpr, liftR, tAndM, tOrM, tNotM, tB, tTr, truD, e2, e1, eChain, eVar, eC, eL, eIf, eAnd, eOr, eNot, eTup, eLst, eBits, aCons, aNil, Res.bind, asgR, asgL, Pat.asg, List.map_cons, List.map_nil, List.set, Option.bind, Option.bind_some, List.getElem?_cons_succ, List.getElem?_cons_zero, List.length_cons, List.length_nil, List.replicate_succ, List.replicate_zero, List.cons_append, List.nil_append, Nat.reduceAdd, Nat.reduceSub, Nat.reduceLeDiff, Nat.zero_add, decide_true, decide_false, if_true, if_false, Bool.false_eq_true, Bool.not_true, Bool.not_false, eq_ii, ne_ii, lt_ii, gt_ii, le_ii, ge_ii, add_ii, sub_ii, sFor, iSeq, seqOf, forL, ix0, g1, g2, ep, asgR]
end K02
namespace K02
open PySem PySem.Spec DL NT
theorem whole_ok {i : Int} (M : Mem) (h : Builtin.Int.intBits i ≤ 20000) : m_is_whole [.int i] M = .ok (.bl true) M := by
  have e := ev_is_whole (pl_int i) M
  rw [show W3 (.int i) = true from decide_eq_true h] at e
  exact e
theorem whole_no {x : D} (M : Mem) (h : Pl x) (w : W3 x = false) : m_is_whole [x] M = .ok (.bl false) M := by
  have e := ev_is_whole h M
  rw [w] at e
  exact e
theorem between_ok {i lo hi : Int} (M : Mem) (h1 : lo ≤ i) (h2 : i ≤ hi) (b1 : -1024 ≤ i) (b2 : i ≤ 1024) : m_is_whole_between [.int i, .int lo, .int hi] M = .ok (.bl true) M := by
  have w := whole_ok M (Nat.le_trans (bits_small b1 b2) (by omega))
  unfold m_is_whole_between b_is_whole_between
  simp only [runB, sSeq, sIf, sNil, sPass, sCont, sPar, sAsg, sRet, sExpr, liftR, tAndM, tOrM, tNotM, tB, tTr, truD, e2, e1, eChain, eVar, eC, eL, eIf, eAnd, eOr, eNot, eTup, eLst, eBits, aCons, aNil, Res.bind, asgR, asgL, Pat.asg, List.map_cons, List.map_nil, List.set, Option.bind, Option.bind_some, List.getElem?_cons_succ, List.getElem?_cons_zero, List.length_cons, List.length_nil, List.replicate_succ, List.replicate_zero, List.cons_append, List.nil_append, Nat.reduceAdd, Nat.reduceSub, Nat.reduceLeDiff, Nat.zero_add, decide_true, decide_false, if_true, if_false, Bool.false_eq_true, Bool.not_true, Bool.not_false, eq_ii, ne_ii, lt_ii, gt_ii, le_ii, ge_ii, add_ii, sub_ii, w, h1, h2]
theorem between_no {i lo hi : Int} (M : Mem) (h : i < lo ∨ hi < i) (b1 : -1024 ≤ i) (b2 : i ≤ 1024) : m_is_whole_between [.int i, .int lo, .int hi] M = .ok (.bl false) M := by
  have w := whole_ok M (Nat.le_trans (bits_small b1 b2) (by omega))
  by_cases q1 : lo ≤ i
  · have q2 : ¬ i ≤ hi := by omega
    unfold m_is_whole_between b_is_whole_between
    simp only [runB, sSeq, sIf, sNil, sPass, sCont, sPar, sAsg, sRet, sExpr, liftR, tAndM, tOrM, tNotM, tB, tTr, truD, e2, e1, eChain, eVar, eC, eL, eIf, eAnd, eOr, eNot, eTup, eLst, eBits, aCons, aNil, Res.bind, asgR, asgL, Pat.asg, List.map_cons, List.map_nil, List.set, Option.bind, Option.bind_some, List.getElem?_cons_succ, List.getElem?_cons_zero, List.length_cons, List.length_nil, List.replicate_succ, List.replicate_zero, List.cons_append, List.nil_append, Nat.reduceAdd, Nat.reduceSub, Nat.reduceLeDiff, Nat.zero_add, decide_true, decide_false, if_true, if_false, Bool.false_eq_true, Bool.not_true, Bool.not_false, eq_ii, ne_ii, lt_ii, gt_ii, le_ii, ge_ii, add_ii, sub_ii, w, q1, q2]
  · unfold m_is_whole_between b_is_whole_between
    simp only [runB, sSeq, sIf, sNil, sPass, sCont, sPar, sAsg, sRet, sExpr, liftR, tAndM, tOrM, tNotM, tB, tTr, truD, e2, e1, eChain, eVar, eC, eL, eIf, eAnd, eOr, eNot, eTup, eLst, eBits, aCons, aNil, Res.bind, asgR, asgL, Pat.asg, List.map_cons, List.map_nil, List.set, Option.bind, Option.bind_some, List.getElem?_cons_succ, List.getElem?_cons_zero, List.length_cons, List.length_nil, List.replicate_succ, List.replicate_zero, List.cons_append, List.nil_append, Nat.reduceAdd, Nat.reduceSub, Nat.reduceLeDiff, Nat.zero_add, decide_true, decide_false, if_true, if_false, Bool.false_eq_true, Bool.not_true, Bool.not_false, eq_ii, ne_ii, lt_ii, gt_ii, le_ii, ge_ii, add_ii, sub_ii, w, q1]
theorem between_odd {x : D} {lo hi : Int} (M : Mem) (h : Pl x) (w : W3 x = false) : m_is_whole_between [x, .int lo, .int hi] M = .ok (.bl false) M := by
  have w := whole_no M h w
  unfold m_is_whole_between b_is_whole_between
  simp only [runB, sSeq, sIf, sNil, sPass, sCont, sPar, sAsg, sRet, sExpr, liftR, tAndM, tOrM, tNotM, tB, tTr, truD, e2, e1, eChain, eVar, eC, eL, eIf, eAnd, eOr, eNot, eTup, eLst, eBits, aCons, aNil, Res.bind, asgR, asgL, Pat.asg, List.map_cons, List.map_nil, List.set, Option.bind, Option.bind_some, List.getElem?_cons_succ, List.getElem?_cons_zero, List.length_cons, List.length_nil, List.replicate_succ, List.replicate_zero, List.cons_append, List.nil_append, Nat.reduceAdd, Nat.reduceSub, Nat.reduceLeDiff, Nat.zero_add, decide_true, decide_false, if_true, if_false, Bool.false_eq_true, Bool.not_true, Bool.not_false, eq_ii, ne_ii, lt_ii, gt_ii, le_ii, ge_ii, add_ii, sub_ii, w]
theorem abs_ii (i : Int) (M : Mem) : absD [.int i] M = .ok (.int (i.natAbs : Int)) M := abs_i i M
theorem ev_pos_ok {s m a b c : Nat} (h : V s m a b c) (hs : s ≤ 4000) (hm : m ≤ 1000) (M : Mem) : m_is_positive_value [T3 a b c] M = .ok (.bl true) M := by
  have f := h.form hs hm M
  have g : (0 : Int) < (a : Int) := by have := h.v.x0; omega
  unfold m_is_positive_value b_is_positive_value
  simp only [runB, sSeq, sIf, sNil, sPass, sCont, sPar, sAsg, sRet, sExpr, liftR, tAndM, tOrM, tNotM, tB, tTr, truD, e2, e1, eChain, eVar, eC, eL, eIf, eAnd, eOr, eNot, eTup, eLst, eBits, aCons, aNil, Res.bind, asgR, asgL, Pat.asg, List.map_cons, List.map_nil, List.set, Option.bind, Option.bind_some, List.getElem?_cons_succ, List.getElem?_cons_zero, List.length_cons, List.length_nil, List.replicate_succ, List.replicate_zero, List.cons_append, List.nil_append, Nat.reduceAdd, Nat.reduceSub, Nat.reduceLeDiff, Nat.zero_add, decide_true, decide_false, if_true, if_false, Bool.false_eq_true, Bool.not_true, Bool.not_false, eq_ii, ne_ii, lt_ii, gt_ii, le_ii, ge_ii, add_ii, sub_ii, f, ix0, g]
/-- the program's powered, by u = |p| / g, w = q / g -/
theorem ev_powered {a b c s m u w : Nat} (va : V s m a b c) (neg : Bool) (hs : s * u ≤ 4900) (hw : 0 < w) (hmw : m * w ≤ 90000) (hu : u < 1000) (hm : m ≤ 1000) (hwl : w ≤ 1000) :
    ∃ x y z : Nat, (∀ M, m_powered [T3 a b c, .tup [.int (if neg then -(u : Int) else u), .int (w : Int)]] M = .ok (T3 x y z) M) ∧ (neg = true → u ≠ 0 → True) ∧ V (s * u) (c * w) x y z ∧
      (u ≠ 0 ∨ neg = false → ∀ {K p q g}, Ev K a b c p q → Ev (K * (w * g)) x y z (if neg then q ^ (u * g) else p ^ (u * g)) (if neg then p ^ (u * g) else q ^ (u * g))) := by
  have c0 := va.v.z0
  have hcw : 0 < c * w := Nat.mul_pos c0 hw
  have hcw2 : c * w < 100000 := by
    have := Nat.mul_le_mul_right w va.bz
    omega
  have pa := fun M => ev_whole_power a u s M va.bx (by omega) (by omega)
  have pb := fun M => ev_whole_power b u s M va.by_ (by omega) (by omega)
  have la := pow_le2 va.bx (Nat.le_refl u)
  have lb := pow_le2 va.by_ (Nat.le_refl u)
  have hcl : c ≤ 1000 := Nat.le_trans va.bz hm
  have mw := fun M => mul_nn (a := c) (b := w) M (by
    have := log64 (a := c) (by omega)
    have := log64 (a := w) (by omega)
    omega)
  have pa0 := Nat.pow_pos (n := u) va.v.x0
  have pb0 := Nat.pow_pos (n := u) va.v.y0
  have ba := bits_p la
  have bb := bits_p lb
  have ab : ∀ M, absD [.int (if neg then -(u : Int) else u)] M = .ok (.int (u : Int)) M := fun M => by
    rw [abs_ii]
    cases neg <;> simp
  cases neg with
  | false =>
    obtain ⟨x, y, z, e, h⟩ := ev_lowest2 (a ^ u) (b ^ u) (c * w) pa0 pb0 hcw hcw2 (by omega) (by omega)
    refine ⟨x, y, z, fun M => ?_, fun _ _ => trivial, LowN.v h pa0 pb0 la lb (Nat.le_refl _), fun _ {K p q g} hE => ?_⟩
    · have n0 : ¬ (u : Int) < 0 := by omega
      have ab := ab M
      have e := e M
      have mw := mw M
      have pa := pa M
      have pb := pb M
      simp only [Bool.false_eq_true, if_false] at ab ⊢
      generalize a ^ u = A at *
      generalize b ^ u = B at *
      generalize c * w = C at *
      unfold m_powered b_powered
      simp only [runB, sSeq, sIf, sNil, sPass, sCont, sPar, sAsg, sRet, sExpr, liftR, tAndM, tOrM, tNotM, tB, tTr, truD, e2, e1, eChain, eVar, eC, eL, eIf, eAnd, eOr, eNot, eTup, eLst, eBits, aCons, aNil, Res.bind, asgR, asgL, Pat.asg, List.map_cons, List.map_nil, List.set, Option.bind, Option.bind_some, List.getElem?_cons_succ, List.getElem?_cons_zero, List.length_cons, List.length_nil, List.replicate_succ, List.replicate_zero, List.cons_append, List.nil_append, Nat.reduceAdd, Nat.reduceSub, Nat.reduceLeDiff, Nat.zero_add, decide_true, decide_false, if_true, if_false, Bool.false_eq_true, Bool.not_true, Bool.not_false, eq_ii, ne_ii, lt_ii, gt_ii, le_ii, ge_ii, add_ii, sub_ii, asgR, ix0, ix1, n0, ab, pa, pb, mw, e]
    · exact Ev.pow va.v h rfl rfl rfl hE
  | true =>
    obtain ⟨x, y, z, e, h⟩ := ev_lowest2 (b ^ u) (a ^ u) (c * w) pb0 pa0 hcw hcw2 (by omega) (by omega)
    refine ⟨x, y, z, fun M => ?_, fun _ _ => trivial, LowN.v h pb0 pa0 lb la (Nat.le_refl _), fun hu0 {K p q g} hE => ?_⟩
    · have ab := ab M
      have e := e M
      have mw := mw M
      have pa := pa M
      have pb := pb M
      simp only [if_true] at ab ⊢
      by_cases u0 : u = 0
      · subst u0
        have n0 : ¬ (-((0 : Nat) : Int)) < 0 := by omega
        simp only [Nat.pow_zero] at e pa pb
        unfold m_powered b_powered
        simp only [runB, sSeq, sIf, sNil, sPass, sCont, sPar, sAsg, sRet, sExpr, liftR, tAndM, tOrM, tNotM, tB, tTr, truD, e2, e1, eChain, eVar, eC, eL, eIf, eAnd, eOr, eNot, eTup, eLst, eBits, aCons, aNil, Res.bind, asgR, asgL, Pat.asg, List.map_cons, List.map_nil, List.set, Option.bind, Option.bind_some, List.getElem?_cons_succ, List.getElem?_cons_zero, List.length_cons, List.length_nil, List.replicate_succ, List.replicate_zero, List.cons_append, List.nil_append, Nat.reduceAdd, Nat.reduceSub, Nat.reduceLeDiff, Nat.zero_add, decide_true, decide_false, if_true, if_false, Bool.false_eq_true, Bool.not_true, Bool.not_false, eq_ii, ne_ii, lt_ii, gt_ii, le_ii, ge_ii, add_ii, sub_ii, asgR, ix0, ix1, n0, ab, pa, pb, mw, e]
      · have n0 : (-(u : Int)) < 0 := by omega
        generalize a ^ u = A at *
        generalize b ^ u = B at *
        generalize c * w = C at *
        unfold m_powered b_powered
        simp only [runB, sSeq, sIf, sNil, sPass, sCont, sPar, sAsg, sRet, sExpr, liftR, tAndM, tOrM, tNotM, tB, tTr, truD, e2, e1, eChain, eVar, eC, eL, eIf, eAnd, eOr, eNot, eTup, eLst, eBits, aCons, aNil, Res.bind, asgR, asgL, Pat.asg, List.map_cons, List.map_nil, List.set, Option.bind, Option.bind_some, List.getElem?_cons_succ, List.getElem?_cons_zero, List.length_cons, List.length_nil, List.replicate_succ, List.replicate_zero, List.cons_append, List.nil_append, Nat.reduceAdd, Nat.reduceSub, Nat.reduceLeDiff, Nat.zero_add, decide_true, decide_false, if_true, if_false, Bool.false_eq_true, Bool.not_true, Bool.not_false, eq_ii, ne_ii, lt_ii, gt_ii, le_ii, ge_ii, add_ii, sub_ii, asgR, ix0, ix1, n0, ab, pa, pb, mw, e]
    · exact Ev.pow (Vl.inv va.v) h rfl rfl rfl hE.inv
theorem fdiv_neg (n g : Nat) (hg : g ∣ n) : (-(n : Int)).fdiv (g : Int) = -((n / g : Nat) : Int) := by
  obtain ⟨k, rfl⟩ := hg
  by_cases h0 : g = 0
  · subst h0
    simp
  · have hg : 0 < g := by omega
    rw [Nat.mul_div_cancel_left _ hg, Int.fdiv_eq_ediv_of_nonneg _ (by omega), Int.natCast_mul, ← Int.mul_neg, Int.mul_ediv_cancel_left _ (by omega)]
/-- power of the program: P the exponent's size, neg its sign -/
theorem ev_power {a b c s m P Q : Nat} (va : V s m a b c) (neg : Bool) (hP : P ≤ 64) (hQ : 1 ≤ Q) (hQ2 : Q ≤ 64) (hs : s * (P / Nat.gcd P Q) ≤ 4900) (hs1 : s ≤ 4000) (hm : m ≤ 1000) :
    ∃ x y z : Nat, (∀ M, m_power [T3 a b c, .int (if neg then -(P : Int) else P), .int (Q : Int)] M = .ok (T3 x y z) M) ∧ V (s * (P / Nat.gcd P Q)) (c * (Q / Nat.gcd P Q)) x y z ∧
      ∀ {K p q}, Ev K a b c p q → Ev (K * Q) x y z (if neg then q ^ P else p ^ P) (if neg then p ^ P else q ^ P) := by
  have hg : 0 < Nat.gcd P Q := Nat.gcd_pos_of_pos_right _ hQ
  have gP := Nat.gcd_dvd_left P Q
  have gQ := Nat.gcd_dvd_right P Q
  have hw : 0 < Q / Nat.gcd P Q := Nat.div_pos (Nat.le_of_dvd hQ gQ) hg
  have hQg : Q / Nat.gcd P Q ≤ 64 := Nat.le_trans (Nat.div_le_self _ _) hQ2
  have hPg : P / Nat.gcd P Q ≤ 64 := Nat.le_trans (Nat.div_le_self _ _) hP
  have hmw : m * (Q / Nat.gcd P Q) ≤ 64000 := Nat.mul_le_mul hm hQg
  have posv := fun M => ev_pos_ok va hs1 hm M
  have eP : P / Nat.gcd P Q * Nat.gcd P Q = P := Nat.div_mul_cancel gP
  have eQ : Q / Nat.gcd P Q * Nat.gcd P Q = Q := Nat.div_mul_cancel gQ
  have mk : ∀ M, m_made [.int (if neg then -(P : Int) else P), .int (Q : Int)] M = .ok (.tup [.int (if neg && !(P / Nat.gcd P Q == 0) then -((P / Nat.gcd P Q : Nat) : Int) else ((P / Nat.gcd P Q : Nat) : Int)), .int ((Q / Nat.gcd P Q : Nat) : Int)]) M := fun M => by
    have e := ev_made (if neg then -(P : Int) else P) Q M hQ (Nat.le_trans (bits_le (k := 7) (by omega)) (by omega))
    have ha : (if neg then -(P : Int) else (P : Int)).natAbs = P := by cases neg <;> simp
    rw [ha] at e
    rw [e]
    cases neg with
    | false =>
      rw [if_neg (by decide), fdiv_nn]
      rfl
    | true =>
      rw [if_pos rfl, fdiv_neg _ _ gP]
      by_cases h0 : P / Nat.gcd P Q = 0
      · rw [h0]
        rfl
      · rw [show (true && !(P / Nat.gcd P Q == 0)) = true by simp [h0], if_pos rfl]
  obtain ⟨x, y, z, e, _, hV, hE⟩ := ev_powered va (neg && !(P / Nat.gcd P Q == 0)) hs hw (by omega) (by omega) hm (by omega)
  refine ⟨x, y, z, fun M => ?_, hV, fun {K p q} h => ?_⟩
  · have bp : m_is_whole_between [.int (if neg then -(P : Int) else P), .int (-64), .int 64] M = .ok (.bl true) M := by
      cases neg
      · rw [if_neg (by decide)]
        exact between_ok M (by omega) (by omega) (by omega) (by omega)
      · rw [if_pos rfl]
        exact between_ok M (by omega) (by omega) (by omega) (by omega)
    have bq : m_is_whole_between [.int (Q : Int), .int 1, .int 64] M = .ok (.bl true) M := between_ok M (by omega) (by omega) (by omega) (by omega)
    have posv := posv M
    have mk := mk M
    have e := e M
    generalize (if neg then -(P : Int) else (P : Int)) = I at *
    generalize (if neg && !(P / Nat.gcd P Q == 0) then -((P / Nat.gcd P Q : Nat) : Int) else ((P / Nat.gcd P Q : Nat) : Int)) = J at *
    unfold m_power b_power
    simp only [runB, sSeq, sIf, sNil, sPass, sCont, sPar, sAsg, sRet, sExpr, liftR, tAndM, tOrM, tNotM, tB, tTr, truD, e2, e1, eChain, eVar, eC, eL, eIf, eAnd, eOr, eNot, eTup, eLst, eBits, aCons, aNil, Res.bind, asgR, asgL, Pat.asg, List.map_cons, List.map_nil, List.set, Option.bind, Option.bind_some, List.getElem?_cons_succ, List.getElem?_cons_zero, List.length_cons, List.length_nil, List.replicate_succ, List.replicate_zero, List.cons_append, List.nil_append, Nat.reduceAdd, Nat.reduceSub, Nat.reduceLeDiff, Nat.zero_add, decide_true, decide_false, if_true, if_false, Bool.false_eq_true, Bool.not_true, Bool.not_false, eq_ii, ne_ii, lt_ii, gt_ii, le_ii, ge_ii, add_ii, sub_ii, posv, negD, bp, bq, mk, e]
  · have hc : P / Nat.gcd P Q ≠ 0 ∨ (neg && !(P / Nat.gcd P Q == 0)) = false := by
      by_cases h0 : P / Nat.gcd P Q = 0
      · right
        simp [h0]
      · exact .inl h0
    have hh := hE hc (g := Nat.gcd P Q) h
    rw [eQ, eP] at hh
    by_cases h0 : P / Nat.gcd P Q = 0
    · have hP0 : P = 0 := by rw [← eP, h0, Nat.zero_mul]
      subst hP0
      have : (neg && !(0 / Nat.gcd 0 Q == 0)) = false := by simp
      rw [this] at hh
      cases neg <;> simpa using hh
    · have : (neg && !(P / Nat.gcd P Q == 0)) = neg := by simp [h0]
      rw [this] at hh
      exact hh
/-- the law's own power -/
theorem ev_law_power {a b c s m P Q : Nat} (va : V s m a b c) (neg : Bool) (hQ : 1 ≤ Q) (hs : s * P ≤ 4900) (hP : P < 1000) (hmQ : m * Q ≤ 1000) (hn : neg = true → P ≠ 0) :
    ∃ x y z : Nat, (∀ M, m_law_power [T3 a b c, .int (if neg then -(P : Int) else P), .int (Q : Int)] M = .ok (T3 x y z) M) ∧ V (s * P) (c * Q) x y z ∧
      ∀ {K p q}, Ev K a b c p q → Ev (K * Q) x y z (if neg then q ^ P else p ^ P) (if neg then p ^ P else q ^ P) := by
  have c0 := va.v.z0
  have hcQ : 0 < c * Q := Nat.mul_pos c0 hQ
  have hcQ2 : c * Q < 1024 := by
    have := Nat.mul_le_mul_right Q va.bz
    omega
  have pa := fun M => ev_law_pow a P s M va.bx (by omega) (by omega)
  have pb := fun M => ev_law_pow b P s M va.by_ (by omega) (by omega)
  have la := pow_le2 va.bx (Nat.le_refl P)
  have lb := pow_le2 va.by_ (Nat.le_refl P)
  have cl : c ≤ c * Q := Nat.le_mul_of_pos_right c hQ
  have ql : Q ≤ c * Q := Nat.le_mul_of_pos_left Q c0
  have mw := fun M => mul_nn (a := c) (b := Q) M (by
    have := log64 (a := c) (by omega)
    have := log64 (a := Q) (by omega)
    omega)
  have pa0 := Nat.pow_pos (n := P) va.v.x0
  have pb0 := Nat.pow_pos (n := P) va.v.y0
  have ba := bits_p la
  have bb := bits_p lb
  by_cases h0 : P = 0
  · subst h0
    have : neg = false := by
      cases neg with
      | false => rfl
      | true => exact absurd rfl (hn rfl)
    subst this
    refine ⟨1, 1, 1, fun M => ?_, ⟨Vl.one, Nat.pow_pos (by decide), Nat.pow_pos (by decide), hcQ⟩, fun {K p q} _ => ?_⟩
    · unfold m_law_power b_law_power
      have z1 : (0 : Int) ≤ ((0 : Nat) : Int) := by omega
      have z2 : ((0 : Nat) : Int) = 0 := rfl
      simp only [Bool.false_eq_true, if_false]
      simp only [runB, sSeq, sIf, sNil, sPass, sCont, sPar, sAsg, sRet, sExpr, liftR, tAndM, tOrM, tNotM, tB, tTr, truD, e2, e1, eChain, eVar, eC, eL, eIf, eAnd, eOr, eNot, eTup, eLst, eBits, aCons, aNil, Res.bind, asgR, asgL, Pat.asg, List.map_cons, List.map_nil, List.set, Option.bind, Option.bind_some, List.getElem?_cons_succ, List.getElem?_cons_zero, List.length_cons, List.length_nil, List.replicate_succ, List.replicate_zero, List.cons_append, List.nil_append, Nat.reduceAdd, Nat.reduceSub, Nat.reduceLeDiff, Nat.zero_add, decide_true, decide_false, if_true, if_false, Bool.false_eq_true, Bool.not_true, Bool.not_false, eq_ii, ne_ii, lt_ii, gt_ii, le_ii, ge_ii, add_ii, sub_ii, z2, ix0, ix1, asgR, Int.le_refl]
      rfl
    · simp only [Nat.pow_zero, ite_self]
      exact Ev.one _
  have ab : ∀ M, absD [.int (if neg then -(P : Int) else P)] M = .ok (.int (P : Int)) M := fun M => by
    rw [abs_ii]
    cases neg <;> simp
  cases neg with
  | false =>
    obtain ⟨x, y, z, _, e, h⟩ := ev_low_both (a ^ P) (b ^ P) (c * Q) pa0 pb0 hcQ hcQ2 (by omega) (by omega)
    refine ⟨x, y, z, fun M => ?_, LowN.v h pa0 pb0 la lb (Nat.le_refl _), fun {K p q} hE => ?_⟩
    · have ab := ab M
      have e := e M
      have mw := mw M
      have pa := pa M
      have pb := pb M
      simp only [Bool.false_eq_true, if_false] at ab ⊢
      have z1 : (0 : Int) ≤ (P : Int) := by omega
      have z2 : ¬ (P : Int) = 0 := by omega
      generalize a ^ P = A at *
      generalize b ^ P = B at *
      generalize c * Q = C at *
      unfold m_law_power b_law_power
      simp only [runB, sSeq, sIf, sNil, sPass, sCont, sPar, sAsg, sRet, sExpr, liftR, tAndM, tOrM, tNotM, tB, tTr, truD, e2, e1, eChain, eVar, eC, eL, eIf, eAnd, eOr, eNot, eTup, eLst, eBits, aCons, aNil, Res.bind, asgR, asgL, Pat.asg, List.map_cons, List.map_nil, List.set, Option.bind, Option.bind_some, List.getElem?_cons_succ, List.getElem?_cons_zero, List.length_cons, List.length_nil, List.replicate_succ, List.replicate_zero, List.cons_append, List.nil_append, Nat.reduceAdd, Nat.reduceSub, Nat.reduceLeDiff, Nat.zero_add, decide_true, decide_false, if_true, if_false, Bool.false_eq_true, Bool.not_true, Bool.not_false, eq_ii, ne_ii, lt_ii, gt_ii, le_ii, ge_ii, add_ii, sub_ii, asgR, ix0, ix1, ix2, z1, z2, ab, pa, pb, mw, e]
    · have := Ev.pow (g := 1) va.v h rfl rfl rfl hE
      simpa using this
  | true =>
    obtain ⟨x, y, z, _, e, h⟩ := ev_low_both (b ^ P) (a ^ P) (c * Q) pb0 pa0 hcQ hcQ2 (by omega) (by omega)
    refine ⟨x, y, z, fun M => ?_, LowN.v h pb0 pa0 lb la (Nat.le_refl _), fun {K p q} hE => ?_⟩
    · have ab := ab M
      have e := e M
      have mw := mw M
      have pa := pa M
      have pb := pb M
      simp only [if_true] at ab ⊢
      have z1 : ¬ (0 : Int) ≤ -(P : Int) := by omega
      have z2 : ¬ -(P : Int) = 0 := by omega
      generalize a ^ P = A at *
      generalize b ^ P = B at *
      generalize c * Q = C at *
      unfold m_law_power b_law_power
      simp only [runB, sSeq, sIf, sNil, sPass, sCont, sPar, sAsg, sRet, sExpr, liftR, tAndM, tOrM, tNotM, tB, tTr, truD, e2, e1, eChain, eVar, eC, eL, eIf, eAnd, eOr, eNot, eTup, eLst, eBits, aCons, aNil, Res.bind, asgR, asgL, Pat.asg, List.map_cons, List.map_nil, List.set, Option.bind, Option.bind_some, List.getElem?_cons_succ, List.getElem?_cons_zero, List.length_cons, List.length_nil, List.replicate_succ, List.replicate_zero, List.cons_append, List.nil_append, Nat.reduceAdd, Nat.reduceSub, Nat.reduceLeDiff, Nat.zero_add, decide_true, decide_false, if_true, if_false, Bool.false_eq_true, Bool.not_true, Bool.not_false, eq_ii, ne_ii, lt_ii, gt_ii, le_ii, ge_ii, add_ii, sub_ii, asgR, ix0, ix1, ix2, z1, z2, ab, pa, pb, mw, e]
    · have := Ev.pow (g := 1) (Vl.inv va.v) h rfl rfl rfl hE.inv
      simpa using this
/-- power, told and due -/
theorem ev_power_both {a b c s m P Q : Nat} (va : V s m a b c) (neg : Bool) (hP : P ≤ 64) (hQ : 1 ≤ Q) (hQ2 : Q ≤ 64) (hs : s * P ≤ 4900) (hs1 : s ≤ 4000) (hmQ : m * Q ≤ 1000) (hn : neg = true → P ≠ 0) :
    ∃ x y z : Nat, (∀ M, m_power [T3 a b c, .int (if neg then -(P : Int) else P), .int (Q : Int)] M = .ok (T3 x y z) M) ∧ (∀ M, m_law_power [T3 a b c, .int (if neg then -(P : Int) else P), .int (Q : Int)] M = .ok (T3 x y z) M) ∧
      V (s * (P / Nat.gcd P Q)) (c * (Q / Nat.gcd P Q)) x y z ∧ ∀ {K p q}, Ev K a b c p q → Ev (K * Q) x y z (if neg then q ^ P else p ^ P) (if neg then p ^ P else q ^ P) := by
  have ml : m ≤ m * Q := Nat.le_mul_of_pos_right m hQ
  obtain ⟨x, y, z, e, v, h⟩ := ev_power va neg hP hQ hQ2 (Nat.le_trans (Nat.mul_le_mul_left s (Nat.div_le_self _ _)) hs) hs1 (by omega)
  obtain ⟨x', y', z', e', v', h'⟩ := ev_law_power va neg hQ hs (by omega) hmQ hn
  have E0 : Ev c a b c (a ^ 1) (b ^ 1) := Ev.self (Nat.mul_one c)
  have a0 := va.v.x0
  have b0 := va.v.y0
  have q1 : 0 < (if neg then (b ^ 1) ^ P else (a ^ 1) ^ P) := by split <;> exact Nat.pow_pos (Nat.pow_pos (by assumption))
  have q2 : 0 < (if neg then (a ^ 1) ^ P else (b ^ 1) ^ P) := by split <;> exact Nat.pow_pos (Nat.pow_pos (by assumption))
  obtain ⟨rfl, rfl, rfl⟩ := Ev.unique (Nat.mul_pos va.v.z0 hQ) q1 q2 v.v v'.v (h E0) (h' E0)
  exact ⟨x, y, z, e, e', v, h⟩
end K02
namespace K02
open PySem PySem.Spec DL NT
theorem lc_6 (o n2 n3 : Option D) (M : Mem) : eLc (iSeq (eTup (aCons (eC (.int 1)) (aCons (eC (.int 1)) (aCons (eC (.int 2)) (aCons (eC (.int 3)) (aCons (eC (.int 4)) (aCons (eC (.int 6)) (aCons (eC (.int 8)) aNil))))))))) (.nm 4) [4] (tB (e2 leD (eVar 4) (eVar 1))) (eVar 4) [o, some (.int 6), n2, n3, none] M = .ok (.lst [.int 1, .int 1, .int 2, .int 3, .int 4, .int 6]) M := rfl
theorem lc_4 (o n2 n3 : Option D) (M : Mem) : eLc (iSeq (eTup (aCons (eC (.int 1)) (aCons (eC (.int 1)) (aCons (eC (.int 2)) (aCons (eC (.int 3)) (aCons (eC (.int 4)) (aCons (eC (.int 6)) (aCons (eC (.int 8)) aNil))))))))) (.nm 4) [4] (tB (e2 leD (eVar 4) (eVar 1))) (eVar 4) [o, some (.int 4), n2, n3, none] M = .ok (.lst [.int 1, .int 1, .int 2, .int 3, .int 4]) M := rfl
theorem lc_3 (o n2 n3 : Option D) (M : Mem) : eLc (iSeq (eTup (aCons (eC (.int 1)) (aCons (eC (.int 1)) (aCons (eC (.int 2)) (aCons (eC (.int 3)) (aCons (eC (.int 4)) (aCons (eC (.int 6)) (aCons (eC (.int 8)) aNil))))))))) (.nm 4) [4] (tB (e2 leD (eVar 4) (eVar 1))) (eVar 4) [o, some (.int 3), n2, n3, none] M = .ok (.lst [.int 1, .int 1, .int 2, .int 3]) M := rfl
theorem ev_law_positive {M : Mem} {a n c : Nat} (D0 : Dk M a n c) (hc : c < 900000) (most : Int) (L : List Int) (h0 : 0 < L.length) (h1 : L.length < 100) (hL : ∀ i ∈ L, 1 ≤ i ∧ i ≤ most) (m8 : most ≤ 8)
    (hlc : ∀ (o n2 n3 : Option D) (M : Mem), eLc (iSeq (eTup (aCons (eC (.int 1)) (aCons (eC (.int 1)) (aCons (eC (.int 2)) (aCons (eC (.int 3)) (aCons (eC (.int 4)) (aCons (eC (.int 6)) (aCons (eC (.int 8)) aNil))))))))) (.nm 4) [4] (tB (e2 leD (eVar 4) (eVar 1))) (eVar 4) [o, some (.int most), n2, n3, none] M = .ok (.lst (L.map D.int)) M) :
    ∃ (x y z : Nat) (M' : Mem), m_law_positive [.own n, .int most] M = .ok (T3 x y z) M' ∧ V 5 most.toNat x y z ∧ Dk M' a n (c + 3) ∧ Gw M M' a n := by
  obtain ⟨N, M1, hN, e1', D1, g1⟩ := pick_int D0 (by omega) [1, 2, 3, 4, 5, 6, 8, 9, 12, 18, 27] (by decide) (by decide) (fun i => 1 ≤ i ∧ i ≤ 27) (by decide)
  obtain ⟨Dn, M2, hD, e2', D2, g2⟩ := pick_int D1 (by omega) [1, 1, 2, 3, 4, 5, 8] (by decide) (by decide) (fun i => 1 ≤ i ∧ i ≤ 8) (by decide)
  obtain ⟨k, M3, hk, e3', D3, g3⟩ := pick_int D2 (by omega) L h0 (by omega) (fun i => 1 ≤ i ∧ i ≤ most) hL
  simp only [List.map_cons, List.map_nil] at e1' e2'
  obtain ⟨N, rfl⟩ : ∃ t : Nat, N = (t : Int) := ⟨N.toNat, by omega⟩
  obtain ⟨Dn, rfl⟩ : ∃ t : Nat, Dn = (t : Int) := ⟨Dn.toNat, by omega⟩
  obtain ⟨k, rfl⟩ : ∃ t : Nat, k = (t : Int) := ⟨k.toNat, by omega⟩
  obtain ⟨x, y, z, e, h⟩ := ev_law_value N Dn k M3 (by omega) (by omega) (by omega) (by omega) (Nat.le_trans (bits_small (by omega) (by omega)) (by omega)) (Nat.le_trans (bits_small (by omega) (by omega)) (by omega))
  refine ⟨x, y, z, M3, ?_, LowN.v h (by omega) (by omega) (by omega) (by omega) (by omega), D3.up (by omega), (g1.trans g2).trans g3⟩
  unfold m_law_positive b_law_positive
  simp only [runB, sSeq, sIf, sNil, sPass, sCont, sPar, sAsg, sRet, sExpr, liftR, tAndM, tOrM, tNotM, tB, tTr, truD, e2, e1, eChain, eVar, eC, eL, eIf, eAnd, eOr, eNot, eTup, eLst, eBits, aCons, aNil, Res.bind, asgR, asgL, Pat.asg, List.map_cons, List.map_nil, List.set, Option.bind, Option.bind_some, List.getElem?_cons_succ, List.getElem?_cons_zero, List.length_cons, List.length_nil, List.replicate_succ, List.replicate_zero, List.cons_append, List.nil_append, Nat.reduceAdd, Nat.reduceSub, Nat.reduceLeDiff, Nat.zero_add, decide_true, decide_false, if_true, if_false, Bool.false_eq_true, Bool.not_true, Bool.not_false, eq_ii, ne_ii, lt_ii, gt_ii, le_ii, ge_ii, add_ii, sub_ii, e1', e2', asgR, hlc, e3', e]
theorem vl_ev {x y z K : Nat} (h : Vl x y z) (hK : 0 < K) (hd : z ∣ K) : ∃ p q, 0 < p ∧ 0 < q ∧ Ev K x y z p q := by
  obtain ⟨e, he⟩ := hd
  exact ⟨x ^ e, y ^ e, Nat.pow_pos h.x0, Nat.pow_pos h.y0, Ev.self he.symm⟩
theorem sd_v {s m x y z : Nat} (h : V s m x y z) (hs : s ≤ 399) (hm : m ≤ 1000) (d : Nat) : Sd 1206 (d + 1) (T3 x y z) := by
  have := bits_p h.bx
  have := bits_p h.by_
  have := h.bz
  exact sd_t3 (by omega) (by omega) (Nat.le_trans (bits_small (by omega) (by omega)) (by omega)) d
theorem V.one : V 0 1 1 1 1 := ⟨Vl.one, by decide, by decide, by decide⟩
theorem ev_compare_self {s x y z : Nat} (h : V s 1 x y z) (hs : s ≤ 400) (M : Mem) : m_compare [T3 x y z, T3 x y z] M = .ok (.int 0) M := by
  have z1 : z = 1 := by have := h.v.z0; have := h.bz; omega
  subst z1
  have nv := h.need (by omega) (by omega) M
  have n1 : ¬ (x : Int) ≤ 0 := by have := h.v.x0; omega
  have m1 := mul_p M h.bx h.by_ (by omega)
  have one : ((1 : Nat) : Int) = 1 := rfl
  have cm : m_compared [T3 x y (1 : Nat), T3 x y (1 : Nat)] M = .ok (.int 0) M := by
    generalize x * y = P at *
    unfold m_compared b_compared
    simp only [runB, sSeq, sIf, sNil, sPass, sCont, sPar, sAsg, sRet, sExpr, liftR, tAndM, tOrM, tNotM, tB, tTr, truD, e2, e1, eChain, eVar, eC, eL, eIf, eAnd, eOr, eNot, eTup, eLst, eBits, aCons, aNil, Res.bind, asgR, asgL, Pat.asg, List.map_cons, List.map_nil, List.set, Option.bind, Option.bind_some, List.getElem?_cons_succ, List.getElem?_cons_zero, List.length_cons, List.length_nil, List.replicate_succ, List.replicate_zero, List.cons_append, List.nil_append, Nat.reduceAdd, Nat.reduceSub, Nat.reduceLeDiff, Nat.zero_add, decide_true, decide_false, if_true, if_false, Bool.false_eq_true, Bool.not_true, Bool.not_false, eq_ii, ne_ii, lt_ii, gt_ii, le_ii, ge_ii, add_ii, sub_ii, ix0, ix1, ix2, n1, one, asgR, m1, Int.lt_irrefl, int_bl, Int.sub_self]
  unfold m_compare b_compare
  simp only [runB, sSeq, sIf, sNil, sPass, sCont, sPar, sAsg, sRet, sExpr, liftR, tAndM, tOrM, tNotM, tB, tTr, truD, e2, e1, eChain, eVar, eC, eL, eIf, eAnd, eOr, eNot, eTup, eLst, eBits, aCons, aNil, Res.bind, asgR, asgL, Pat.asg, List.map_cons, List.map_nil, List.set, Option.bind, Option.bind_some, List.getElem?_cons_succ, List.getElem?_cons_zero, List.length_cons, List.length_nil, List.replicate_succ, List.replicate_zero, List.cons_append, List.nil_append, Nat.reduceAdd, Nat.reduceSub, Nat.reduceLeDiff, Nat.zero_add, decide_true, decide_false, if_true, if_false, Bool.false_eq_true, Bool.not_true, Bool.not_false, eq_ii, ne_ii, lt_ii, gt_ii, le_ii, ge_ii, add_ii, sub_ii, nv, cm]
/-- the law's exponents -/
theorem sgn_of (i : Int) : ∃ (neg : Bool) (P : Nat), i = (if neg then -(P : Int) else (P : Int)) ∧ (neg = true → P ≠ 0) ∧ P = i.natAbs := by
  by_cases h : i < 0
  · exact ⟨true, i.natAbs, by rw [if_pos rfl]; omega, fun _ => by omega, rfl⟩
  · exact ⟨false, i.natAbs, by rw [if_neg (by decide)]; omega, (fun z => by cases z), rfl⟩
/-- products: told and due -/
theorem ev_prods {a b c a' b' c' a'' b'' c'' : Nat} (va : V 5 6 a b c) (vb : V 5 4 a' b' c') (vc : V 5 3 a'' b'' c'') :
    ∃ ab abc bc iv : D, Sd 1206 2 ab ∧ Sd 1206 2 abc ∧ (∀ M, m_law_times [T3 a b c, T3 a' b' c'] M = .ok ab M) ∧ (∀ M, m_times [T3 a b c, T3 a' b' c'] M = .ok ab M) ∧ (∀ M, m_law_times [ab, T3 a'' b'' c''] M = .ok abc M) ∧ (∀ M, m_times [ab, T3 a'' b'' c''] M = .ok abc M) ∧
      (∀ M, m_times [T3 a' b' c', T3 a'' b'' c''] M = .ok bc M) ∧ (∀ M, m_times [T3 a b c, bc] M = .ok abc M) ∧ (∀ M, m_power [T3 a b c, .int (-1), .int 1] M = .ok iv M) ∧ (∀ M, m_times [T3 a b c, iv] M = .ok (T3 1 1 1) M) ∧ ∀ M, m_times [T3 a' b' c', T3 a b c] M = .ok ab M := by
  obtain ⟨x1, y1, z1, p1, l1, v1, h1⟩ := ev_times va vb (by decide) (by decide) (by decide)
  obtain ⟨x2, y2, z2, p2, l2, v2, h2⟩ := ev_times v1 vc (by decide) (by decide) (by decide)
  obtain ⟨x3, y3, z3, p3, l3, v3, h3⟩ := ev_times vb vc (by decide) (by decide) (by decide)
  obtain ⟨x4, y4, z4, p4, l4, v4, h4⟩ := ev_times va v3 (by decide) (by decide) (by decide)
  obtain ⟨x5, y5, z5, p5, l5, v5, h5⟩ := ev_power_both va true (P := 1) (Q := 1) (by decide) (by decide) (by decide) (by decide) (by decide) (by decide) (by decide)
  have v5' : V 5 6 x5 y5 z5 := v5.up (by decide) (by have := va.bz; simpa using this)
  obtain ⟨x6, y6, z6, p6, l6, v6, h6⟩ := ev_times va v5' (by decide) (by decide) (by decide)
  obtain ⟨x7, y7, z7, p7, l7, v7, h7⟩ := ev_times vb va (by decide) (by decide) (by decide)
  have K0 : 0 < c * c' * c'' := Nat.mul_pos (Nat.mul_pos va.v.z0 vb.v.z0) vc.v.z0
  obtain ⟨p, q, hp, hq, ea⟩ := vl_ev (K := c * c' * c'') va.v K0 ⟨c' * c'', by rw [Nat.mul_assoc]⟩
  obtain ⟨p', q', hp', hq', eb⟩ := vl_ev (K := c * c' * c'') vb.v K0 ⟨c * c'', by rw [Nat.mul_comm c, Nat.mul_assoc]⟩
  obtain ⟨p'', q'', hp'', hq'', ec⟩ := vl_ev (K := c * c' * c'') vc.v K0 ⟨c * c', by rw [Nat.mul_comm]⟩
  obtain ⟨rfl, rfl, rfl⟩ := Ev.unique K0 (Nat.mul_pos (Nat.mul_pos hp hp') hp'') (Nat.mul_pos (Nat.mul_pos hq hq') hq'') v2.v v4.v (h2 (h1 ea eb) ec) ((h4 ea (h3 eb ec)).cast rfl (Nat.mul_assoc _ _ _).symm (Nat.mul_assoc _ _ _).symm)
  obtain ⟨rfl, rfl, rfl⟩ := Ev.unique K0 (Nat.mul_pos hp hp') (Nat.mul_pos hq hq') v1.v v7.v (h1 ea eb) ((h7 eb ea).cast rfl (Nat.mul_comm _ _) (Nat.mul_comm _ _))
  have ea1 : Ev (c * c' * c'' * 1) a b c p q := ea.cast (Nat.mul_one _).symm rfl rfl
  have e6 := h6 ea1 (h5 ea)
  simp only [if_true, Nat.pow_one, Nat.mul_one] at e6
  obtain ⟨rfl, rfl, rfl⟩ := Ev.unique K0 (by omega) (by omega) v6.v Vl.one (e6.terms (p' := 1) (q' := 1) (Nat.mul_pos hq hp) (Nat.mul_pos hp hq) (by rw [Nat.mul_one, Nat.mul_one, Nat.mul_comm])) (Ev.one _)
  refine ⟨_, _, _, _, sd_v v1 (by decide) (by decide) 1, sd_v v2 (by decide) (by decide) 1, l1, p1, l2, p2, p3, p4, ?_, p6, p7⟩
  intro M
  exact p5 M
theorem div_le' (c Q g m : Nat) (h : c ≤ m) : c * (Q / g) ≤ m * Q := Nat.mul_le_mul h (Nat.div_le_self _ _)
/-- powers: told and due -/
theorem ev_pows {a b c a' b' c' P Q R : Nat} (neg : Bool) (va : V 5 6 a b c) (vb : V 5 4 a' b' c') (hn : neg = true → P ≠ 0) (hP : P ≤ 5) (hQ : 1 ≤ Q) (hQ2 : Q ≤ 4) (hR : 1 ≤ R) (hR2 : R ≤ 3) {ab : D} (hab : ∀ M, m_times [T3 a b c, T3 a' b' c'] M = .ok ab M) (hlab : ∀ M, m_law_times [T3 a b c, T3 a' b' c'] M = .ok ab M) :
    ∃ w wr w1 u v uv : D, Sd 1206 2 w ∧ Sd 1206 2 wr ∧ Sd 1206 2 uv ∧ (∀ M, m_law_power [T3 a b c, .int (if neg then -(P : Int) else P), .int (Q : Int)] M = .ok w M) ∧ (∀ M, m_power [T3 a b c, .int (if neg then -(P : Int) else P), .int (Q : Int)] M = .ok w M) ∧
      (∀ M, m_power [w, .int (R : Int), .int 1] M = .ok wr M) ∧ (∀ M, m_law_power [T3 a b c, .int ((if neg then -(P : Int) else P) * (R : Int)), .int (Q : Int)] M = .ok wr M) ∧
      (∀ M, m_power [T3 a b c, .int 1, .int (Q : Int)] M = .ok w1 M) ∧ (∀ M, m_power [w1, .int (if neg then -(P : Int) else P), .int 1] M = .ok w M) ∧
      (∀ M, m_power [T3 a b c, .int (if neg then -(P : Int) else P), .int 1] M = .ok u M) ∧ (∀ M, m_power [T3 a' b' c', .int (if neg then -(P : Int) else P), .int 1] M = .ok v M) ∧ (∀ M, m_times [u, v] M = .ok uv M) ∧
      (∀ M, m_power [ab, .int (if neg then -(P : Int) else P), .int 1] M = .ok uv M) ∧ (∀ M, m_law_power [ab, .int (if neg then -(P : Int) else P), .int 1] M = .ok uv M) := by
  have P5 : 5 * P ≤ 25 := by omega
  obtain ⟨x1, y1, z1, p1, l1, v1, h1⟩ := ev_power_both va neg (P := P) (Q := Q) (by omega) hQ (by omega) (by omega) (by omega) (by omega) hn
  have v1' : V 25 24 x1 y1 z1 := v1.up (Nat.le_trans (Nat.mul_le_mul_left 5 (Nat.div_le_self _ _)) (by omega)) (Nat.le_trans (div_le' _ _ _ _ va.bz) (by omega))
  obtain ⟨x2, y2, z2, p2, v2, h2⟩ := ev_power v1' false (P := R) (Q := 1) (by omega) (by omega) (by omega) (by rw [Nat.gcd_one_right, Nat.div_one]; omega) (by omega) (by omega)
  have PR : P * R ≤ 15 := Nat.mul_le_mul hP hR2
  obtain ⟨x3, y3, z3, l3, v3, h3⟩ := ev_law_power va neg (P := P * R) (Q := Q) hQ (by omega) (by omega) (by omega) (fun e => Nat.mul_ne_zero (hn e) (by omega))
  obtain ⟨x4, y4, z4, p4, v4, h4⟩ := ev_power va false (P := 1) (Q := Q) (by omega) hQ (by omega) (by rw [Nat.gcd_one_left, Nat.div_one]; omega) (by omega) (by omega)
  have v4' : V 5 24 x4 y4 z4 := v4.up (by rw [Nat.gcd_one_left, Nat.div_one]; omega) (Nat.le_trans (div_le' _ _ _ _ va.bz) (by omega))
  obtain ⟨x5, y5, z5, p5, v5, h5⟩ := ev_power v4' neg (P := P) (Q := 1) (by omega) (by omega) (by omega) (by rw [Nat.gcd_one_right, Nat.div_one]; omega) (by omega) (by omega)
  obtain ⟨x6, y6, z6, p6, v6, h6⟩ := ev_power va neg (P := P) (Q := 1) (by omega) (by omega) (by omega) (by rw [Nat.gcd_one_right, Nat.div_one]; omega) (by omega) (by omega)
  have v6' : V 25 6 x6 y6 z6 := v6.up (by rw [Nat.gcd_one_right, Nat.div_one]; omega) (by rw [Nat.gcd_one_right, Nat.div_one]; have := va.bz; omega)
  obtain ⟨x7, y7, z7, p7, v7, h7⟩ := ev_power vb neg (P := P) (Q := 1) (by omega) (by omega) (by omega) (by rw [Nat.gcd_one_right, Nat.div_one]; omega) (by omega) (by omega)
  have v7' : V 25 4 x7 y7 z7 := v7.up (by rw [Nat.gcd_one_right, Nat.div_one]; omega) (by rw [Nat.gcd_one_right, Nat.div_one]; have := vb.bz; omega)
  obtain ⟨x8, y8, z8, p8, l8, v8, h8⟩ := ev_times v6' v7' (by decide) (by decide) (by decide)
  obtain ⟨x9, y9, z9, p9, l9, v9, h9⟩ := ev_times va vb (by decide) (by decide) (by decide)
  obtain ⟨xa, ya, za, pa, la, wa, ha⟩ := ev_power_both v9 neg (P := P) (Q := 1) (by omega) (by omega) (by omega) (by omega) (by omega) (by omega) hn
  have K0 : 0 < c * c' := Nat.mul_pos va.v.z0 vb.v.z0
  obtain ⟨p, q, hp, hq, ea⟩ := vl_ev (K := c * c') va.v K0 ⟨c', rfl⟩
  obtain ⟨p', q', hp', hq', eb⟩ := vl_ev (K := c * c') vb.v K0 ⟨c, Nat.mul_comm _ _⟩
  have KQ : 0 < c * c' * Q := Nat.mul_pos K0 hQ
  have pos : ∀ {x y : Nat} (e : Nat), 0 < x → 0 < y → 0 < (if neg then x ^ e else y ^ e) := fun {x y} e h1 h2 => by split <;> exact Nat.pow_pos (by assumption)
  -- the root's power
  have e2 := h2 (h1 ea)
  simp only [Bool.false_eq_true, if_false] at e2
  have e3 := h3 ea
  have s1 : (if neg then q ^ P else p ^ P) ^ R = (if neg then q ^ (P * R) else p ^ (P * R)) := by cases neg <;> simp [Nat.pow_mul]
  have s2 : (if neg then p ^ P else q ^ P) ^ R = (if neg then p ^ (P * R) else q ^ (P * R)) := by cases neg <;> simp [Nat.pow_mul]
  obtain ⟨rfl, rfl, rfl⟩ := Ev.unique KQ (pos _ hq hp) (pos _ hp hq) v2.v v3.v (e2.cast (Nat.mul_one _) s1 s2) e3
  have e5 := h5 (h4 ea)
  simp only [Bool.false_eq_true, if_false, Nat.pow_one] at e5
  obtain ⟨rfl, rfl, rfl⟩ := Ev.unique KQ (pos _ hq hp) (pos _ hp hq) v5.v v1.v (e5.cast (Nat.mul_one _) rfl rfl) (h1 ea)
  have e8 := h8 (h6 ea) (h7 eb)
  have ea' := ha (h9 ea eb)
  have s3 : (if neg then q ^ P else p ^ P) * (if neg then q' ^ P else p' ^ P) = (if neg then (q * q') ^ P else (p * p') ^ P) := by cases neg <;> simp [Nat.mul_pow]
  have s4 : (if neg then p ^ P else q ^ P) * (if neg then p' ^ P else q' ^ P) = (if neg then (p * p') ^ P else (q * q') ^ P) := by cases neg <;> simp [Nat.mul_pow]
  obtain ⟨rfl, rfl, rfl⟩ := Ev.unique (K := c * c' * 1) (by omega) (pos _ (Nat.mul_pos hq hq') (Nat.mul_pos hp hp')) (pos _ (Nat.mul_pos hp hp') (Nat.mul_pos hq hq')) v8.v wa.v (e8.cast rfl s3 s4) ea'
  have eab : ab = T3 x9 y9 z9 := by
    have := (hab []).symm.trans (p9 [])
    injection this
  subst eab
  have mR : (if neg then -(P : Int) else (P : Int)) * (R : Int) = (if neg then -((P * R : Nat) : Int) else ((P * R : Nat) : Int)) := by
    cases neg
    · simp
    · simp [Int.neg_mul]
  rw [mR]
  exact ⟨_, _, _, _, _, _, sd_v v1' (by decide) (by decide) 1, sd_v v3 (by omega) (by have := Nat.mul_le_mul va.bz hQ2; omega) 1, sd_v v8 (by decide) (by decide) 1, l1, p1, p2, l3, p4, p5, p6, p7, p8, pa, la⟩
/-- a great power and its root back -/
theorem ev_far (base n k : Int) (hb : base = 2 ∨ base = 3) (hn : n = 64 ∨ n = -64 ∨ n = 31 ∨ n = 24) (hk : k = 64 ∨ k = 7 ∨ k = 24) :
    ∃ far e : D, Sd 1206 2 far ∧ (∀ M, m_power [T3 base 1 1, .int n, .int k] M = .ok far M) ∧ (∀ M, m_law_power [T3 base 1 1, .int n, .int k] M = .ok far M) ∧ (∀ M, m_power [far, .int k, .int 1] M = .ok e M) ∧ (∀ M, m_power [T3 base 1 1, .int n, .int 1] M = .ok e M) ∧ ∀ M, m_compare [e, e] M = .ok (.int 0) M := by
  obtain ⟨B, rfl, hB⟩ : ∃ B : Nat, base = (B : Int) ∧ (B = 2 ∨ B = 3) := ⟨base.toNat, by omega, by omega⟩
  obtain ⟨k, rfl, hk'⟩ : ∃ K : Nat, k = (K : Int) ∧ (K = 64 ∨ K = 7 ∨ K = 24) := ⟨k.toNat, by omega, by omega⟩
  obtain ⟨neg, P, rfl, hneg, hP⟩ := sgn_of n
  have hP' : P = 64 ∨ P = 31 ∨ P = 24 := by omega
  clear hP hn
  have vB : V 2 1 B 1 1 := ⟨⟨by omega, by omega, by omega, Nat.coprime_one_right B, red_one⟩, by omega, by decide, by omega⟩
  obtain ⟨x1, y1, z1, p1, l1, v1, h1⟩ := ev_power_both vB neg (P := P) (Q := k) (by omega) (by omega) (by omega) (by omega) (by omega) (by omega) hneg
  have hsz : 2 * (P / Nat.gcd P k) * (k / Nat.gcd k 1) ≤ 4900 ∧ 2 * (P / Nat.gcd P k) ≤ 399 ∧ 1 * (k / Nat.gcd P k) ≤ 1000 := by
    rcases hP' with rfl | rfl | rfl <;> rcases hk' with rfl | rfl | rfl <;> decide
  obtain ⟨x2, y2, z2, p2, v2, h2⟩ := ev_power v1 false (P := k) (Q := 1) (by omega) (by omega) (by omega) hsz.1 (by omega) hsz.2.2
  obtain ⟨x3, y3, z3, p3, v3, h3⟩ := ev_power vB neg (P := P) (Q := 1) (by omega) (by omega) (by omega) (by rw [Nat.gcd_one_right, Nat.div_one]; omega) (by omega) (by omega)
  have v3' : V 128 1 x3 y3 z3 := v3.up (by rw [Nat.gcd_one_right, Nat.div_one]; omega) (by rw [Nat.gcd_one_right]; decide)
  have E1 : Ev 1 B 1 1 (B ^ 1) (1 ^ 1) := Ev.self rfl
  have Ek : Ev k B 1 1 (B ^ k) (1 ^ k) := Ev.self (Nat.one_mul k)
  have e2 := h2 (h1 E1)
  have e3 := h3 Ek
  simp only [Bool.false_eq_true, if_false, Nat.pow_one, Nat.one_pow, Nat.one_mul, Nat.mul_one] at e2 e3
  have k0 : 0 < k := by omega
  have B0 : 0 < B := by omega
  have pw : (B ^ P) ^ k = (B ^ k) ^ P := by rw [← Nat.pow_mul, ← Nat.pow_mul, Nat.mul_comm]
  have s1 : (if neg then 1 else B ^ P) ^ k = (if neg then 1 else (B ^ k) ^ P) := by cases neg <;> simp [pw]
  have s2 : (if neg then B ^ P else 1) ^ k = (if neg then (B ^ k) ^ P else 1) := by cases neg <;> simp [pw]
  have q1 : 0 < (if neg then 1 else (B ^ k) ^ P) := by split; omega; exact Nat.pow_pos (Nat.pow_pos B0)
  have q2 : 0 < (if neg then (B ^ k) ^ P else 1) := by split; exact Nat.pow_pos (Nat.pow_pos B0); omega
  obtain ⟨rfl, rfl, rfl⟩ := Ev.unique k0 q1 q2 v2.v v3.v (e2.cast rfl s1 s2) e3
  exact ⟨_, _, sd_v v1 hsz.2.1 hsz.2.2 1, p1, l1, p2, p3, fun M => ev_compare_self v3' (by decide) M⟩
end K02
namespace K02
open PySem PySem.Spec DL NT
theorem ev_are_products_right {M : Mem} {a n c : Nat} (D0 : Dk M a n c) (hc : c < 800000) : ∃ M', m_law_are_products_right [.own n] M = .ok (.bl true) M' ∧ Dk M' a n (c + 20) := by
  obtain ⟨xa, ya, za, M1, ea, va, D1, g1⟩ := ev_law_positive D0 (by omega) 6 [1, 1, 2, 3, 4, 6] (by decide) (by decide) (by decide) (by decide) lc_6
  obtain ⟨xb, yb, zb, M2, eb, vb, D2, g2⟩ := ev_law_positive D1 (by omega) 4 [1, 1, 2, 3, 4] (by decide) (by decide) (by decide) (by decide) lc_4
  obtain ⟨xc, yc, zc, M3, ec, vc, D3, g3⟩ := ev_law_positive D2 (by omega) 3 [1, 1, 2, 3] (by decide) (by decide) (by decide) (by decide) lc_3
  obtain ⟨p, M4, hp, ep, D4, g4⟩ := pick_int D3 (by omega) [-3, -2, -1, 0, 1, 2, 3, 5] (by decide) (by decide) (fun i => -3 ≤ i ∧ i ≤ 5) (by decide)
  obtain ⟨q, M5, hq, eq, D5, g5⟩ := pick_int D4 (by omega) [1, 2, 3, 4] (by decide) (by decide) (fun i => 1 ≤ i ∧ i ≤ 4) (by decide)
  obtain ⟨r, M6, hr, er, D6, g6⟩ := pick_int D5 (by omega) [1, 2, 3] (by decide) (by decide) (fun i => 1 ≤ i ∧ i ≤ 3) (by decide)
  obtain ⟨n', M7, hn, en, D7, g7⟩ := pick_int D6 (by omega) [64, -64, 31, 24] (by decide) (by decide) (fun i => i = 64 ∨ i = -64 ∨ i = 31 ∨ i = 24) (by decide)
  obtain ⟨k, M8, hk, ek, D8, g8⟩ := pick_int D7 (by omega) [64, 7, 24] (by decide) (by decide) (fun i => i = 64 ∨ i = 7 ∨ i = 24) (by decide)
  obtain ⟨b, M9, hb, ebs, D9, g9⟩ := pick_int D8 (by omega) [2, 3] (by decide) (by decide) (fun i => i = 2 ∨ i = 3) (by decide)
  simp only [List.map_cons, List.map_nil] at ep eq er en ek ebs
  obtain ⟨ab, abc, bc, iv, s1, s2, l1, p1, l2, p2, p3, p4, p5, p6, p7⟩ := ev_prods va vb vc
  obtain ⟨neg, P, hpe, hneg, hP⟩ := sgn_of p
  obtain ⟨Q, rfl⟩ : ∃ t : Nat, q = (t : Int) := ⟨q.toNat, by omega⟩
  obtain ⟨R, rfl⟩ : ∃ t : Nat, r = (t : Int) := ⟨r.toNat, by omega⟩
  obtain ⟨w, wr, w1, u, v, uv, t1, t2, t3, lw, pw, pwr, lwr, pw1, pw1b, pu, pv, puv, pab, lab⟩ := ev_pows (P := P) (Q := Q) (R := R) neg va vb hneg (by omega) (by omega) (by omega) (by omega) (by omega) p1 l1
  rw [← hpe] at lw pw lwr pw1b pu pv pab lab
  have mpr : mulI (.int p) (.int (R : Int)) M6 = .ok (.int (p * R)) M6 := mul_b M6 (Nat.le_trans (bits_small (by omega) (by omega)) (by omega)) (Nat.le_trans (bits_small (by omega) (by omega)) (by omega))
  obtain ⟨far, e, t4, pf, lf, pe, pe2, cmp⟩ := ev_far b n' k hb hn hk
  have sm1 := same_of M3 ((((((SdL.nil 3).cons ((sd_v V.one (by decide) (by decide) 2).up (Nat.le_refl _) (by omega))).cons (s2.up (Nat.le_refl _) (by omega))).cons (s2.up (Nat.le_refl _) (by omega))).cons (s1.up (Nat.le_refl _) (by omega))).cons (s1.up (Nat.le_refl _) (by omega))).lst (by omega) (by omega)
  have sm2 := same_of M6 (((((((SdL.nil 3).cons (t3.up (Nat.le_refl _) (by omega))).cons (t3.up (Nat.le_refl _) (by omega))).cons (t1.up (Nat.le_refl _) (by omega))).cons (t2.up (Nat.le_refl _) (by omega))).cons (t1.up (Nat.le_refl _) (by omega))).cons (t1.up (Nat.le_refl _) (by omega))).lst (by omega) (by omega)
  have sm3 := same_of M9 (((SdL.nil 3).cons (sd_one (i := 0) (by omega) (by omega) 3)).cons (t4.up (Nat.le_refl _) (by omega))).lst (by omega) (by omega)
  have one : ((1 : Nat) : Int) = 1 := rfl
  simp only [one] at sm1
  refine ⟨M9, ?_, D9.up (by omega)⟩
  unfold m_law_are_products_right b_law_are_products_right
  refine run_rt ?_
  refine (seq_nx (by simp only [runB, sSeq, sIf, sNil, sPass, sCont, sPar, sAsg, sRet, sExpr, liftR, tAndM, tOrM, tNotM, tB, tTr, truD, e2, e1, eChain, eVar, eC, eL, eIf, eAnd, eOr, eNot, eTup, eLst, eBits, aCons, aNil, Res.bind, asgR, asgL, Pat.asg, List.map_cons, List.map_nil, List.set, Option.bind, Option.bind_some, List.getElem?_cons_succ, List.getElem?_cons_zero, List.length_cons, List.length_nil, List.replicate_succ, List.replicate_zero, List.cons_append, List.nil_append, Nat.reduceAdd, Nat.reduceSub, Nat.reduceLeDiff, Nat.zero_add, decide_true, decide_false, if_true, if_false, Bool.false_eq_true, Bool.not_true, Bool.not_false, eq_ii, ne_ii, lt_ii, gt_ii, le_ii, ge_ii, add_ii, sub_ii, ea, eb, ec]; rfl)).trans ?_
  refine (seq_nx (by simp only [runB, sSeq, sIf, sNil, sPass, sCont, sPar, sAsg, sRet, sExpr, liftR, tAndM, tOrM, tNotM, tB, tTr, truD, e2, e1, eChain, eVar, eC, eL, eIf, eAnd, eOr, eNot, eTup, eLst, eBits, aCons, aNil, Res.bind, asgR, asgL, Pat.asg, List.map_cons, List.map_nil, List.set, Option.bind, Option.bind_some, List.getElem?_cons_succ, List.getElem?_cons_zero, List.length_cons, List.length_nil, List.replicate_succ, List.replicate_zero, List.cons_append, List.nil_append, Nat.reduceAdd, Nat.reduceSub, Nat.reduceLeDiff, Nat.zero_add, decide_true, decide_false, if_true, if_false, Bool.false_eq_true, Bool.not_true, Bool.not_false, eq_ii, ne_ii, lt_ii, gt_ii, le_ii, ge_ii, add_ii, sub_ii, l1]; rfl)).trans ?_
  refine (seq_nx (by simp only [runB, sSeq, sIf, sNil, sPass, sCont, sPar, sAsg, sRet, sExpr, liftR, tAndM, tOrM, tNotM, tB, tTr, truD, e2, e1, eChain, eVar, eC, eL, eIf, eAnd, eOr, eNot, eTup, eLst, eBits, aCons, aNil, Res.bind, asgR, asgL, Pat.asg, List.map_cons, List.map_nil, List.set, Option.bind, Option.bind_some, List.getElem?_cons_succ, List.getElem?_cons_zero, List.length_cons, List.length_nil, List.replicate_succ, List.replicate_zero, List.cons_append, List.nil_append, Nat.reduceAdd, Nat.reduceSub, Nat.reduceLeDiff, Nat.zero_add, decide_true, decide_false, if_true, if_false, Bool.false_eq_true, Bool.not_true, Bool.not_false, eq_ii, ne_ii, lt_ii, gt_ii, le_ii, ge_ii, add_ii, sub_ii, p1, p7, p2, p3, p4, negD, p5, p6, eK, permD, List.filterMap_cons, List.filterMap_nil, eq_self, and_self]; rfl)).trans ?_
  refine (seq_nx (by simp only [runB, sSeq, sIf, sNil, sPass, sCont, sPar, sAsg, sRet, sExpr, liftR, tAndM, tOrM, tNotM, tB, tTr, truD, e2, e1, eChain, eVar, eC, eL, eIf, eAnd, eOr, eNot, eTup, eLst, eBits, aCons, aNil, Res.bind, asgR, asgL, Pat.asg, List.map_cons, List.map_nil, List.set, Option.bind, Option.bind_some, List.getElem?_cons_succ, List.getElem?_cons_zero, List.length_cons, List.length_nil, List.replicate_succ, List.replicate_zero, List.cons_append, List.nil_append, Nat.reduceAdd, Nat.reduceSub, Nat.reduceLeDiff, Nat.zero_add, decide_true, decide_false, if_true, if_false, Bool.false_eq_true, Bool.not_true, Bool.not_false, eq_ii, ne_ii, lt_ii, gt_ii, le_ii, ge_ii, add_ii, sub_ii, l2]; rfl)).trans ?_
  refine (seq_nx (by simp only [runB, sSeq, sIf, sNil, sPass, sCont, sPar, sAsg, sRet, sExpr, liftR, tAndM, tOrM, tNotM, tB, tTr, truD, e2, e1, eChain, eVar, eC, eL, eIf, eAnd, eOr, eNot, eTup, eLst, eBits, aCons, aNil, Res.bind, asgR, asgL, Pat.asg, List.map_cons, List.map_nil, List.set, Option.bind, Option.bind_some, List.getElem?_cons_succ, List.getElem?_cons_zero, List.length_cons, List.length_nil, List.replicate_succ, List.replicate_zero, List.cons_append, List.nil_append, Nat.reduceAdd, Nat.reduceSub, Nat.reduceLeDiff, Nat.zero_add, decide_true, decide_false, if_true, if_false, Bool.false_eq_true, Bool.not_true, Bool.not_false, eq_ii, ne_ii, lt_ii, gt_ii, le_ii, ge_ii, add_ii, sub_ii, sm1]; rfl)).trans ?_
  refine (seq_nx (by simp only [runB, sSeq, sIf, sNil, sPass, sCont, sPar, sAsg, sRet, sExpr, liftR, tAndM, tOrM, tNotM, tB, tTr, truD, e2, e1, eChain, eVar, eC, eL, eIf, eAnd, eOr, eNot, eTup, eLst, eBits, aCons, aNil, Res.bind, asgR, asgL, Pat.asg, List.map_cons, List.map_nil, List.set, Option.bind, Option.bind_some, List.getElem?_cons_succ, List.getElem?_cons_zero, List.length_cons, List.length_nil, List.replicate_succ, List.replicate_zero, List.cons_append, List.nil_append, Nat.reduceAdd, Nat.reduceSub, Nat.reduceLeDiff, Nat.zero_add, decide_true, decide_false, if_true, if_false, Bool.false_eq_true, Bool.not_true, Bool.not_false, eq_ii, ne_ii, lt_ii, gt_ii, le_ii, ge_ii, add_ii, sub_ii, ep, eq, er, negD]; rfl)).trans ?_
  refine (seq_nx (by simp only [runB, sSeq, sIf, sNil, sPass, sCont, sPar, sAsg, sRet, sExpr, liftR, tAndM, tOrM, tNotM, tB, tTr, truD, e2, e1, eChain, eVar, eC, eL, eIf, eAnd, eOr, eNot, eTup, eLst, eBits, aCons, aNil, Res.bind, asgR, asgL, Pat.asg, List.map_cons, List.map_nil, List.set, Option.bind, Option.bind_some, List.getElem?_cons_succ, List.getElem?_cons_zero, List.length_cons, List.length_nil, List.replicate_succ, List.replicate_zero, List.cons_append, List.nil_append, Nat.reduceAdd, Nat.reduceSub, Nat.reduceLeDiff, Nat.zero_add, decide_true, decide_false, if_true, if_false, Bool.false_eq_true, Bool.not_true, Bool.not_false, eq_ii, ne_ii, lt_ii, gt_ii, le_ii, ge_ii, add_ii, sub_ii, lw]; rfl)).trans ?_
  refine (seq_nx (by simp only [runB, sSeq, sIf, sNil, sPass, sCont, sPar, sAsg, sRet, sExpr, liftR, tAndM, tOrM, tNotM, tB, tTr, truD, e2, e1, eChain, eVar, eC, eL, eIf, eAnd, eOr, eNot, eTup, eLst, eBits, aCons, aNil, Res.bind, asgR, asgL, Pat.asg, List.map_cons, List.map_nil, List.set, Option.bind, Option.bind_some, List.getElem?_cons_succ, List.getElem?_cons_zero, List.length_cons, List.length_nil, List.replicate_succ, List.replicate_zero, List.cons_append, List.nil_append, Nat.reduceAdd, Nat.reduceSub, Nat.reduceLeDiff, Nat.zero_add, decide_true, decide_false, if_true, if_false, Bool.false_eq_true, Bool.not_true, Bool.not_false, eq_ii, ne_ii, lt_ii, gt_ii, le_ii, ge_ii, add_ii, sub_ii, pw, pwr, pw1, pw1b, pu, pv, puv, p1, pab, eK, permD, List.filterMap_cons, List.filterMap_nil, eq_self, and_self]; rfl)).trans ?_
  refine (seq_nx (by simp only [runB, sSeq, sIf, sNil, sPass, sCont, sPar, sAsg, sRet, sExpr, liftR, tAndM, tOrM, tNotM, tB, tTr, truD, e2, e1, eChain, eVar, eC, eL, eIf, eAnd, eOr, eNot, eTup, eLst, eBits, aCons, aNil, Res.bind, asgR, asgL, Pat.asg, List.map_cons, List.map_nil, List.set, Option.bind, Option.bind_some, List.getElem?_cons_succ, List.getElem?_cons_zero, List.length_cons, List.length_nil, List.replicate_succ, List.replicate_zero, List.cons_append, List.nil_append, Nat.reduceAdd, Nat.reduceSub, Nat.reduceLeDiff, Nat.zero_add, decide_true, decide_false, if_true, if_false, Bool.false_eq_true, Bool.not_true, Bool.not_false, eq_ii, ne_ii, lt_ii, gt_ii, le_ii, ge_ii, add_ii, sub_ii, l1, lab]; rfl)).trans ?_
  refine (seq_nx (by simp only [runB, sSeq, sIf, sNil, sPass, sCont, sPar, sAsg, sRet, sExpr, liftR, tAndM, tOrM, tNotM, tB, tTr, truD, e2, e1, eChain, eVar, eC, eL, eIf, eAnd, eOr, eNot, eTup, eLst, eBits, aCons, aNil, Res.bind, asgR, asgL, Pat.asg, List.map_cons, List.map_nil, List.set, Option.bind, Option.bind_some, List.getElem?_cons_succ, List.getElem?_cons_zero, List.length_cons, List.length_nil, List.replicate_succ, List.replicate_zero, List.cons_append, List.nil_append, Nat.reduceAdd, Nat.reduceSub, Nat.reduceLeDiff, Nat.zero_add, decide_true, decide_false, if_true, if_false, Bool.false_eq_true, Bool.not_true, Bool.not_false, eq_ii, ne_ii, lt_ii, gt_ii, le_ii, ge_ii, add_ii, sub_ii, mpr, lwr, sm2]; rfl)).trans ?_
  refine (seq_nx (by simp only [runB, sSeq, sIf, sNil, sPass, sCont, sPar, sAsg, sRet, sExpr, liftR, tAndM, tOrM, tNotM, tB, tTr, truD, e2, e1, eChain, eVar, eC, eL, eIf, eAnd, eOr, eNot, eTup, eLst, eBits, aCons, aNil, Res.bind, asgR, asgL, Pat.asg, List.map_cons, List.map_nil, List.set, Option.bind, Option.bind_some, List.getElem?_cons_succ, List.getElem?_cons_zero, List.length_cons, List.length_nil, List.replicate_succ, List.replicate_zero, List.cons_append, List.nil_append, Nat.reduceAdd, Nat.reduceSub, Nat.reduceLeDiff, Nat.zero_add, decide_true, decide_false, if_true, if_false, Bool.false_eq_true, Bool.not_true, Bool.not_false, eq_ii, ne_ii, lt_ii, gt_ii, le_ii, ge_ii, add_ii, sub_ii, en, ek, negD]; rfl)).trans ?_
  refine (seq_nx (by simp only [runB, sSeq, sIf, sNil, sPass, sCont, sPar, sAsg, sRet, sExpr, liftR, tAndM, tOrM, tNotM, tB, tTr, truD, e2, e1, eChain, eVar, eC, eL, eIf, eAnd, eOr, eNot, eTup, eLst, eBits, aCons, aNil, Res.bind, asgR, asgL, Pat.asg, List.map_cons, List.map_nil, List.set, Option.bind, Option.bind_some, List.getElem?_cons_succ, List.getElem?_cons_zero, List.length_cons, List.length_nil, List.replicate_succ, List.replicate_zero, List.cons_append, List.nil_append, Nat.reduceAdd, Nat.reduceSub, Nat.reduceLeDiff, Nat.zero_add, decide_true, decide_false, if_true, if_false, Bool.false_eq_true, Bool.not_true, Bool.not_false, eq_ii, ne_ii, lt_ii, gt_ii, le_ii, ge_ii, add_ii, sub_ii, ebs]; rfl)).trans ?_
  refine (seq_nx (by simp only [runB, sSeq, sIf, sNil, sPass, sCont, sPar, sAsg, sRet, sExpr, liftR, tAndM, tOrM, tNotM, tB, tTr, truD, e2, e1, eChain, eVar, eC, eL, eIf, eAnd, eOr, eNot, eTup, eLst, eBits, aCons, aNil, Res.bind, asgR, asgL, Pat.asg, List.map_cons, List.map_nil, List.set, Option.bind, Option.bind_some, List.getElem?_cons_succ, List.getElem?_cons_zero, List.length_cons, List.length_nil, List.replicate_succ, List.replicate_zero, List.cons_append, List.nil_append, Nat.reduceAdd, Nat.reduceSub, Nat.reduceLeDiff, Nat.zero_add, decide_true, decide_false, if_true, if_false, Bool.false_eq_true, Bool.not_true, Bool.not_false, eq_ii, ne_ii, lt_ii, gt_ii, le_ii, ge_ii, add_ii, sub_ii, pf]; rfl)).trans ?_
  simp only [runB, sSeq, sIf, sNil, sPass, sCont, sPar, sAsg, sRet, sExpr, liftR, tAndM, tOrM, tNotM, tB, tTr, truD, e2, e1, eChain, eVar, eC, eL, eIf, eAnd, eOr, eNot, eTup, eLst, eBits, aCons, aNil, Res.bind, asgR, asgL, Pat.asg, List.map_cons, List.map_nil, List.set, Option.bind, Option.bind_some, List.getElem?_cons_succ, List.getElem?_cons_zero, List.length_cons, List.length_nil, List.replicate_succ, List.replicate_zero, List.cons_append, List.nil_append, Nat.reduceAdd, Nat.reduceSub, Nat.reduceLeDiff, Nat.zero_add, decide_true, decide_false, if_true, if_false, Bool.false_eq_true, Bool.not_true, Bool.not_false, eq_ii, ne_ii, lt_ii, gt_ii, le_ii, ge_ii, add_ii, sub_ii, pe, pe2, cmp, lf, sm3]
end K02
namespace K02
open PySem PySem.Spec DL NT
/-- the lowest form of n / d -/
structure Fq (n : Int) (d : Nat) (x : Int) (y : Nat) : Prop where
  y0 : 0 < y
  co : Nat.gcd x.natAbs y = 1
  eq : x * d = n * y
  lx : x.natAbs ≤ n.natAbs
  ly : y ≤ d
theorem low_fq (n : Int) (d : Nat) (hd : 0 < d) : Fq n d (n.fdiv (Nat.gcd n.natAbs d : Nat)) (d / Nat.gcd n.natAbs d) := by
  have hg : 0 < Nat.gcd n.natAbs d := Nat.gcd_pos_of_pos_right _ hd
  have dd := Nat.gcd_dvd_right n.natAbs d
  have dn : ((Nat.gcd n.natAbs d : Nat) : Int) ∣ n := by
    rw [← Int.natAbs_dvd_natAbs, Int.natAbs_natCast]
    exact Nat.gcd_dvd_left _ _
  refine ⟨Nat.div_pos (Nat.le_of_dvd hd dd) hg, ?_, ?_, ?_, Nat.div_le_self _ _⟩
  · rw [red_natAbs hd]
    exact Nat.coprime_div_gcd_div_gcd hg
  · rw [Int.fdiv_eq_ediv_of_dvd dn]
    generalize Nat.gcd n.natAbs d = g at *
    obtain ⟨a, rfl⟩ := dn
    obtain ⟨b, rfl⟩ := dd
    rw [Int.mul_ediv_cancel_left _ (by omega), Nat.mul_div_cancel_left _ hg, Int.natCast_mul]
    grind
  · rw [red_natAbs hd]
    exact Nat.div_le_self _ _
theorem Fq.unique {n n' : Int} {d d' : Nat} {x x' : Int} {y y' : Nat} (h : Fq n d x y) (h' : Fq n' d' x' y') (hd : 0 < d) (hd' : 0 < d') (e : n * d' = n' * d) : x = x' ∧ y = y' := by
  have e1 := h.eq
  have e2 := h'.eq
  have hx : x * y' = x' * y := by
    have : (d : Int) * d' * (x * y') = d * d' * (x' * y) := by
      have a1 : (d : Int) * d' * (x * y') = (x * d) * (d' * y') := by grind
      have a2 : (d : Int) * d' * (x' * y) = (x' * d') * (d * y) := by grind
      rw [a1, a2, e1, e2]
      have a3 : n * (y : Int) * (d' * y') = (n * d') * (y * y') := by grind
      have a4 : n' * (y' : Int) * (d * y) = (n' * d) * (y * y') := by grind
      rw [a3, a4, e]
    exact Int.eq_of_mul_eq_mul_left (by
      have : (0 : Int) < (d : Int) * d' := Int.mul_pos (by omega) (by omega)
      omega) this
  have hn : x.natAbs * y' = x'.natAbs * y := by
    have := congrArg Int.natAbs hx
    rwa [Int.natAbs_mul, Int.natAbs_mul, Int.natAbs_natCast, Int.natAbs_natCast] at this
  have c1 : Nat.Coprime y x.natAbs := by rw [Nat.coprime_comm]; exact h.co
  have c2 : Nat.Coprime y' x'.natAbs := by rw [Nat.coprime_comm]; exact h'.co
  obtain ⟨q1, _⟩ := cop_eqN c1 c2 h.y0 h'.y0 (by rw [Nat.mul_comm y, ← hn, Nat.mul_comm])
  subst q1
  exact ⟨Int.eq_of_mul_eq_mul_right (by have := h.y0; omega) hx, rfl⟩
/-- a fraction in lowest form, its numbers to 2 ^ s -/
structure Fr (s : Nat) (x : Int) (y : Nat) : Prop where
  y0 : 0 < y
  co : Nat.gcd x.natAbs y = 1
  bx : x.natAbs ≤ 2 ^ s
  by_ : y ≤ 2 ^ s
theorem Fr.up {s t : Nat} {x : Int} {y : Nat} (h : Fr s x y) (hs : s ≤ t) : Fr t x y := ⟨h.y0, h.co, Nat.le_trans h.bx (Nat.pow_le_pow_right (by decide) hs), Nat.le_trans h.by_ (Nat.pow_le_pow_right (by decide) hs)⟩
theorem Fq.fr {n x : Int} {d y s : Nat} (h : Fq n d x y) (hn : n.natAbs ≤ 2 ^ s) (hd : d ≤ 2 ^ s) : Fr s x y := ⟨h.y0, h.co, Nat.le_trans h.lx hn, Nat.le_trans h.ly hd⟩
theorem bits_f {x : Int} {s : Nat} (h : x.natAbs ≤ 2 ^ s) : Builtin.Int.intBits x ≤ s + 1 := by
  rw [← bits_abs]
  exact bits_p h
theorem Fr.form {s : Nat} {x : Int} {y : Nat} (h : Fr s x y) (hs : s ≤ 4000) (M : Mem) : m_is_value_form [T3 x y 1] M = .ok (.bl true) M := by
  have h1 := bits_f h.bx
  have h2 := bits_p h.by_
  have h3 := h.y0
  exact ev_form_ok M ⟨by omega, by omega, by rw [Int.natAbs_natCast]; exact h.co, .inl rfl⟩ (by omega) (by omega) (by omega)
theorem Fr.frac {s : Nat} {x : Int} {y : Nat} (h : Fr s x y) (hs : s ≤ 4000) (M : Mem) : m_is_fraction_value [T3 x y 1] M = .ok (.bl true) M := by
  have f := h.form hs M
  unfold m_is_fraction_value b_is_fraction_value
  simp only [runB, sSeq, sIf, sNil, sPass, sCont, sPar, sAsg, sRet, sExpr, liftR, tAndM, tOrM, tNotM, tB, tTr, truD, e2, e1, eChain, eVar, eC, eL, eIf, eAnd, eOr, eNot, eTup, eLst, eBits, aCons, aNil, Res.bind, asgR, asgL, Pat.asg, List.map_cons, List.map_nil, List.set, Option.bind, Option.bind_some, List.getElem?_cons_succ, List.getElem?_cons_zero, List.length_cons, List.length_nil, List.replicate_succ, List.replicate_zero, List.cons_append, List.nil_append, Nat.reduceAdd, Nat.reduceSub, Nat.reduceLeDiff, Nat.zero_add, decide_true, decide_false, if_true, if_false, Bool.false_eq_true, Bool.not_true, Bool.not_false, eq_ii, ne_ii, lt_ii, gt_ii, le_ii, ge_ii, add_ii, sub_ii, f, ix2]
theorem Fr.need {s : Nat} {x : Int} {y : Nat} (h : Fr s x y) (hs : s ≤ 4000) (M : Mem) : m_need_value [T3 x y 1] M = .ok .non M := by
  have f := h.form hs M
  unfold m_need_value b_need_value
  simp only [runB, sSeq, sIf, sNil, sPass, sCont, sPar, sAsg, sRet, sExpr, liftR, tAndM, tOrM, tNotM, tB, tTr, truD, e2, e1, eChain, eVar, eC, eL, eIf, eAnd, eOr, eNot, eTup, eLst, eBits, aCons, aNil, Res.bind, asgR, asgL, Pat.asg, List.map_cons, List.map_nil, List.set, Option.bind, Option.bind_some, List.getElem?_cons_succ, List.getElem?_cons_zero, List.length_cons, List.length_nil, List.replicate_succ, List.replicate_zero, List.cons_append, List.nil_append, Nat.reduceAdd, Nat.reduceSub, Nat.reduceLeDiff, Nat.zero_add, decide_true, decide_false, if_true, if_false, Bool.false_eq_true, Bool.not_true, Bool.not_false, eq_ii, ne_ii, lt_ii, gt_ii, le_ii, ge_ii, add_ii, sub_ii, f]
theorem mul_f {a b : Int} {s t : Nat} (M : Mem) (ha : a.natAbs ≤ 2 ^ s) (hb : b.natAbs ≤ 2 ^ t) (h : s + t < 1000000) : mulI (.int a) (.int b) M = .ok (.int (a * b)) M := mul_ii M (by
  have := log_le ha
  have := log_le hb
  omega)
theorem nat_b {y s : Nat} (h : y ≤ 2 ^ s) : (y : Int).natAbs ≤ 2 ^ s := by rw [Int.natAbs_natCast]; exact h
theorem add_b {a b : Int} {s : Nat} (ha : a.natAbs ≤ 2 ^ s) (hb : b.natAbs ≤ 2 ^ s) : (a + b).natAbs ≤ 2 ^ (s + 1) := by
  have := Int.natAbs_add_le a b
  rw [Nat.pow_succ]
  omega
theorem mul_b2 {a b : Int} {s t : Nat} (ha : a.natAbs ≤ 2 ^ s) (hb : b.natAbs ≤ 2 ^ t) : (a * b).natAbs ≤ 2 ^ (s + t) := by
  rw [Int.natAbs_mul]
  exact mul_le2 ha hb
theorem made_low (n : Int) (d : Nat) (hd : 0 < d) (s : Nat) (hs : s ≤ 4000) (hn : n.natAbs ≤ 2 ^ s) (hd2 : d ≤ 2 ^ s) : ∃ (x : Int) (y : Nat), (∀ M, m_made [.int n, .int (d : Int)] M = .ok (.tup [.int x, .int (y : Int)]) M) ∧ (∀ M, m_law_low [.int n, .int (d : Int)] M = .ok (.tup [.int x, .int (y : Int)]) M) ∧ Fq n d x y ∧ Fr s x y := by
  have bd := bits_p hd2
  have bn := bits_p hn
  have q := low_fq n d hd
  exact ⟨_, _, fun M => ev_made n d M hd (by omega), fun M => ev_law_low n d M hd (by omega) (by omega), q, q.fr hn hd2⟩
theorem star_made {X Y : DL.Env → Mem → Res D} {ρ : DL.Env} {M M1 M2 : Mem} {n x y d : D} (h1 : X ρ M = .ok n M) (h2 : Y ρ M = .ok d M) (h : m_made [n, d] M = .ok (.tup [x, y]) M) : eTup (aStar (eL m_made (aCons X (aCons Y aNil))) (aCons (eC (.int 1)) aNil)) ρ M = .ok (.tup [x, y, .int 1]) M := by
  unfold eTup
  rw [star_t2 (x := x) (y := y) (M1 := M) (M2 := M) (ys := [.int 1]) (by simp only [runB, sSeq, sIf, sNil, sPass, sCont, sPar, sAsg, sRet, sExpr, liftR, tAndM, tOrM, tNotM, tB, tTr, truD, e2, e1, eChain, eVar, eC, eL, eIf, eAnd, eOr, eNot, eTup, eLst, eBits, aCons, aNil, Res.bind, asgR, asgL, Pat.asg, List.map_cons, List.map_nil, List.set, Option.bind, Option.bind_some, List.getElem?_cons_succ, List.getElem?_cons_zero, List.length_cons, List.length_nil, List.replicate_succ, List.replicate_zero, List.cons_append, List.nil_append, Nat.reduceAdd, Nat.reduceSub, Nat.reduceLeDiff, Nat.zero_add, decide_true, decide_false, if_true, if_false, Bool.false_eq_true, Bool.not_true, Bool.not_false, eq_ii, ne_ii, lt_ii, gt_ii, le_ii, ge_ii, add_ii, sub_ii, h1, h2, h]) rfl]
  rfl
theorem ev_plus {s t : Nat} {x1 x2 : Int} {y1 y2 : Nat} (h1 : Fr s x1 y1) (h2 : Fr t x2 y2) (hs : s + t ≤ 3000) : ∃ (x : Int) (y : Nat), (∀ M, m_plus [T3 x1 y1 1, T3 x2 y2 1] M = .ok (T3 x y 1) M) ∧ (∀ M, m_law_add [.tup [.int x1, .int (y1 : Int)], .tup [.int x2, .int (y2 : Int)]] M = .ok (.tup [.int x, .int (y : Int)]) M) ∧
    Fq (x1 * y2 + x2 * y1) (y1 * y2) x y ∧ Fr (s + t + 1) x y := by
  have bn : (x1 * y2 + x2 * y1).natAbs ≤ 2 ^ (s + t + 1) := add_b (mul_b2 h1.bx (nat_b h2.by_)) (by rw [Nat.add_comm]; exact mul_b2 h2.bx (nat_b h1.by_))
  have bd : y1 * y2 ≤ 2 ^ (s + t + 1) := Nat.le_trans (mul_le2 h1.by_ h2.by_) (Nat.pow_le_pow_right (by decide) (by omega))
  obtain ⟨x, y, em, el, q, f⟩ := made_low (x1 * y2 + x2 * y1) (y1 * y2) (Nat.mul_pos h1.y0 h2.y0) (s + t + 1) (by omega) bn bd
  refine ⟨x, y, fun M => ?_, fun M => ?_, q, f⟩
  · have f1 := h1.frac (by omega) M
    have f2 := h2.frac (by omega) M
    have m1 := mul_f M h1.bx (nat_b h2.by_) (by omega)
    have m2 := mul_f M h2.bx (nat_b h1.by_) (by omega)
    have m3 := mul_p M h1.by_ h2.by_ (by omega)
    have em := em M
    unfold m_plus b_plus
    refine run_rt ((seq_nx (ρ1 := [some (T3 x1 y1 1), some (T3 x2 y2 1), some (T3 x2 y2 1)]) (M1 := M) (by simp only [runB, sSeq, sIf, sNil, sPass, sCont, sPar, sAsg, sRet, sExpr, liftR, tAndM, tOrM, tNotM, tB, tTr, truD, e2, e1, eChain, eVar, eC, eL, eIf, eAnd, eOr, eNot, eTup, eLst, eBits, aCons, aNil, Res.bind, asgR, asgL, Pat.asg, List.map_cons, List.map_nil, List.set, Option.bind, Option.bind_some, List.getElem?_cons_succ, List.getElem?_cons_zero, List.length_cons, List.length_nil, List.replicate_succ, List.replicate_zero, List.cons_append, List.nil_append, Nat.reduceAdd, Nat.reduceSub, Nat.reduceLeDiff, Nat.zero_add, decide_true, decide_false, if_true, if_false, Bool.false_eq_true, Bool.not_true, Bool.not_false, eq_ii, ne_ii, lt_ii, gt_ii, le_ii, ge_ii, add_ii, sub_ii, sFor, iSeq, seqOf, forL, f1, f2])).trans ?_)
    unfold sRet
    rw [star_made (n := .int (x1 * y2 + x2 * y1)) (d := .int ((y1 * y2 : Nat) : Int)) (M1 := M) (M2 := M) (by simp only [runB, sSeq, sIf, sNil, sPass, sCont, sPar, sAsg, sRet, sExpr, liftR, tAndM, tOrM, tNotM, tB, tTr, truD, e2, e1, eChain, eVar, eC, eL, eIf, eAnd, eOr, eNot, eTup, eLst, eBits, aCons, aNil, Res.bind, asgR, asgL, Pat.asg, List.map_cons, List.map_nil, List.set, Option.bind, Option.bind_some, List.getElem?_cons_succ, List.getElem?_cons_zero, List.length_cons, List.length_nil, List.replicate_succ, List.replicate_zero, List.cons_append, List.nil_append, Nat.reduceAdd, Nat.reduceSub, Nat.reduceLeDiff, Nat.zero_add, decide_true, decide_false, if_true, if_false, Bool.false_eq_true, Bool.not_true, Bool.not_false, eq_ii, ne_ii, lt_ii, gt_ii, le_ii, ge_ii, add_ii, sub_ii, ix0, ix1, m1, m2]) (by simp only [runB, sSeq, sIf, sNil, sPass, sCont, sPar, sAsg, sRet, sExpr, liftR, tAndM, tOrM, tNotM, tB, tTr, truD, e2, e1, eChain, eVar, eC, eL, eIf, eAnd, eOr, eNot, eTup, eLst, eBits, aCons, aNil, Res.bind, asgR, asgL, Pat.asg, List.map_cons, List.map_nil, List.set, Option.bind, Option.bind_some, List.getElem?_cons_succ, List.getElem?_cons_zero, List.length_cons, List.length_nil, List.replicate_succ, List.replicate_zero, List.cons_append, List.nil_append, Nat.reduceAdd, Nat.reduceSub, Nat.reduceLeDiff, Nat.zero_add, decide_true, decide_false, if_true, if_false, Bool.false_eq_true, Bool.not_true, Bool.not_false, eq_ii, ne_ii, lt_ii, gt_ii, le_ii, ge_ii, add_ii, sub_ii, ix1, m3]) em]
    rfl
  · have m1 := mul_f M h1.bx (nat_b h2.by_) (by omega)
    have m2 := mul_f M h2.bx (nat_b h1.by_) (by omega)
    have m3 := mul_p M h1.by_ h2.by_ (by omega)
    have el := el M
    unfold m_law_add b_law_add
    simp only [runB, sSeq, sIf, sNil, sPass, sCont, sPar, sAsg, sRet, sExpr, liftR, tAndM, tOrM, tNotM, tB, tTr, truD, e2, e1, eChain, eVar, eC, eL, eIf, eAnd, eOr, eNot, eTup, eLst, eBits, aCons, aNil, Res.bind, asgR, asgL, Pat.asg, List.map_cons, List.map_nil, List.set, Option.bind, Option.bind_some, List.getElem?_cons_succ, List.getElem?_cons_zero, List.length_cons, List.length_nil, List.replicate_succ, List.replicate_zero, List.cons_append, List.nil_append, Nat.reduceAdd, Nat.reduceSub, Nat.reduceLeDiff, Nat.zero_add, decide_true, decide_false, if_true, if_false, Bool.false_eq_true, Bool.not_true, Bool.not_false, eq_ii, ne_ii, lt_ii, gt_ii, le_ii, ge_ii, add_ii, sub_ii, ix0, ix1, m1, m2, m3, el]
theorem ev_times_fr {s t : Nat} {x1 x2 : Int} {y1 y2 : Nat} (h1 : Fr s x1 y1) (h2 : Fr t x2 y2) (hs : s + t ≤ 3000) : ∃ (x : Int) (y : Nat), (∀ M, m_times [T3 x1 y1 1, T3 x2 y2 1] M = .ok (T3 x y 1) M) ∧ (∀ M, m_law_mul [.tup [.int x1, .int (y1 : Int)], .tup [.int x2, .int (y2 : Int)]] M = .ok (.tup [.int x, .int (y : Int)]) M) ∧
    Fq (x1 * x2) (y1 * y2) x y ∧ Fr (s + t) x y := by
  obtain ⟨x, y, em, el, q, f⟩ := made_low (x1 * x2) (y1 * y2) (Nat.mul_pos h1.y0 h2.y0) (s + t) (by omega) (mul_b2 h1.bx h2.bx) (mul_le2 h1.by_ h2.by_)
  refine ⟨x, y, fun M => ?_, fun M => ?_, q, f⟩
  · have f1 := h1.need (by omega) M
    have f2 := h2.need (by omega) M
    have m1 := mul_f M h1.bx h2.bx (by omega)
    have m3 := mul_p M h1.by_ h2.by_ (by omega)
    have em := em M
    unfold m_times b_times
    refine run_rt ((seq_nx (ρ1 := [some (T3 x1 y1 1), some (T3 x2 y2 1), none]) (M1 := M) (by simp only [runB, sSeq, sIf, sNil, sPass, sCont, sPar, sAsg, sRet, sExpr, liftR, tAndM, tOrM, tNotM, tB, tTr, truD, e2, e1, eChain, eVar, eC, eL, eIf, eAnd, eOr, eNot, eTup, eLst, eBits, aCons, aNil, Res.bind, asgR, asgL, Pat.asg, List.map_cons, List.map_nil, List.set, Option.bind, Option.bind_some, List.getElem?_cons_succ, List.getElem?_cons_zero, List.length_cons, List.length_nil, List.replicate_succ, List.replicate_zero, List.cons_append, List.nil_append, Nat.reduceAdd, Nat.reduceSub, Nat.reduceLeDiff, Nat.zero_add, decide_true, decide_false, if_true, if_false, Bool.false_eq_true, Bool.not_true, Bool.not_false, eq_ii, ne_ii, lt_ii, gt_ii, le_ii, ge_ii, add_ii, sub_ii, f1])).trans ((seq_nx (ρ1 := [some (T3 x1 y1 1), some (T3 x2 y2 1), none]) (M1 := M) (by simp only [runB, sSeq, sIf, sNil, sPass, sCont, sPar, sAsg, sRet, sExpr, liftR, tAndM, tOrM, tNotM, tB, tTr, truD, e2, e1, eChain, eVar, eC, eL, eIf, eAnd, eOr, eNot, eTup, eLst, eBits, aCons, aNil, Res.bind, asgR, asgL, Pat.asg, List.map_cons, List.map_nil, List.set, Option.bind, Option.bind_some, List.getElem?_cons_succ, List.getElem?_cons_zero, List.length_cons, List.length_nil, List.replicate_succ, List.replicate_zero, List.cons_append, List.nil_append, Nat.reduceAdd, Nat.reduceSub, Nat.reduceLeDiff, Nat.zero_add, decide_true, decide_false, if_true, if_false, Bool.false_eq_true, Bool.not_true, Bool.not_false, eq_ii, ne_ii, lt_ii, gt_ii, le_ii, ge_ii, add_ii, sub_ii, f2])).trans (seq_rt ((if_tt (M1 := M) (by simp only [runB, sSeq, sIf, sNil, sPass, sCont, sPar, sAsg, sRet, sExpr, liftR, tAndM, tOrM, tNotM, tB, tTr, truD, e2, e1, eChain, eVar, eC, eL, eIf, eAnd, eOr, eNot, eTup, eLst, eBits, aCons, aNil, Res.bind, asgR, asgL, Pat.asg, List.map_cons, List.map_nil, List.set, Option.bind, Option.bind_some, List.getElem?_cons_succ, List.getElem?_cons_zero, List.length_cons, List.length_nil, List.replicate_succ, List.replicate_zero, List.cons_append, List.nil_append, Nat.reduceAdd, Nat.reduceSub, Nat.reduceLeDiff, Nat.zero_add, decide_true, decide_false, if_true, if_false, Bool.false_eq_true, Bool.not_true, Bool.not_false, eq_ii, ne_ii, lt_ii, gt_ii, le_ii, ge_ii, add_ii, sub_ii, ix2])).trans ?_))))
    unfold sRet
    rw [star_made (n := .int (x1 * x2)) (d := .int ((y1 * y2 : Nat) : Int)) (M1 := M) (M2 := M) (by simp only [runB, sSeq, sIf, sNil, sPass, sCont, sPar, sAsg, sRet, sExpr, liftR, tAndM, tOrM, tNotM, tB, tTr, truD, e2, e1, eChain, eVar, eC, eL, eIf, eAnd, eOr, eNot, eTup, eLst, eBits, aCons, aNil, Res.bind, asgR, asgL, Pat.asg, List.map_cons, List.map_nil, List.set, Option.bind, Option.bind_some, List.getElem?_cons_succ, List.getElem?_cons_zero, List.length_cons, List.length_nil, List.replicate_succ, List.replicate_zero, List.cons_append, List.nil_append, Nat.reduceAdd, Nat.reduceSub, Nat.reduceLeDiff, Nat.zero_add, decide_true, decide_false, if_true, if_false, Bool.false_eq_true, Bool.not_true, Bool.not_false, eq_ii, ne_ii, lt_ii, gt_ii, le_ii, ge_ii, add_ii, sub_ii, ix0, ix1, m1]) (by simp only [runB, sSeq, sIf, sNil, sPass, sCont, sPar, sAsg, sRet, sExpr, liftR, tAndM, tOrM, tNotM, tB, tTr, truD, e2, e1, eChain, eVar, eC, eL, eIf, eAnd, eOr, eNot, eTup, eLst, eBits, aCons, aNil, Res.bind, asgR, asgL, Pat.asg, List.map_cons, List.map_nil, List.set, Option.bind, Option.bind_some, List.getElem?_cons_succ, List.getElem?_cons_zero, List.length_cons, List.length_nil, List.replicate_succ, List.replicate_zero, List.cons_append, List.nil_append, Nat.reduceAdd, Nat.reduceSub, Nat.reduceLeDiff, Nat.zero_add, decide_true, decide_false, if_true, if_false, Bool.false_eq_true, Bool.not_true, Bool.not_false, eq_ii, ne_ii, lt_ii, gt_ii, le_ii, ge_ii, add_ii, sub_ii, ix1, m3]) em]
    rfl
  · have m1 := mul_f M h1.bx h2.bx (by omega)
    have m3 := mul_p M h1.by_ h2.by_ (by omega)
    have el := el M
    unfold m_law_mul b_law_mul
    simp only [runB, sSeq, sIf, sNil, sPass, sCont, sPar, sAsg, sRet, sExpr, liftR, tAndM, tOrM, tNotM, tB, tTr, truD, e2, e1, eChain, eVar, eC, eL, eIf, eAnd, eOr, eNot, eTup, eLst, eBits, aCons, aNil, Res.bind, asgR, asgL, Pat.asg, List.map_cons, List.map_nil, List.set, Option.bind, Option.bind_some, List.getElem?_cons_succ, List.getElem?_cons_zero, List.length_cons, List.length_nil, List.replicate_succ, List.replicate_zero, List.cons_append, List.nil_append, Nat.reduceAdd, Nat.reduceSub, Nat.reduceLeDiff, Nat.zero_add, decide_true, decide_false, if_true, if_false, Bool.false_eq_true, Bool.not_true, Bool.not_false, eq_ii, ne_ii, lt_ii, gt_ii, le_ii, ge_ii, add_ii, sub_ii, ix0, ix1, m1, m3, el]
theorem ev_law_fraction {M : Mem} {a n c : Nat} (D0 : Dk M a n c) (hc : c < 900000) : ∃ (x : Int) (y : Nat) (M' : Mem), m_law_fraction [.own n, .int 40, .lst [.int 1, .int 2, .int 3, .int 7, .int 12]] M = .ok (.tup [.int x, .int (y : Int)]) M' ∧ Fr 6 x y ∧ Dk M' a n (c + 2) ∧ Gw M M' a n := by
  obtain ⟨r, M1, hr, e1', D1, g1⟩ := draw_int D0 (by omega) 81 (by omega) (by omega)
  obtain ⟨Dn, M2, hD, e2', D2, g2⟩ := pick_int D1 (by omega) [1, 2, 3, 7, 12] (by decide) (by decide) (fun i => 1 ≤ i ∧ i ≤ 12) (by decide)
  simp only [List.map_cons, List.map_nil] at e2'
  obtain ⟨Dn, rfl⟩ : ∃ t : Nat, Dn = (t : Int) := ⟨Dn.toNat, by omega⟩
  obtain ⟨x, y, _, el, q, f⟩ := made_low ((r : Int) - 40) Dn (by omega) 6 (by omega) (by omega) (by omega)
  refine ⟨x, y, M2, ?_, f, D2.up (by omega), g1.trans g2⟩
  have q1 : m_law_draw [.own n, .int (80 + 1)] M = .ok (.int (r : Int)) M1 := e1'
  have mm : mulI (.int 2) (.int 40) M = .ok (.int 80) M := rfl
  have el := el M2
  unfold m_law_fraction b_law_fraction
  simp only [runB, sSeq, sIf, sNil, sPass, sCont, sPar, sAsg, sRet, sExpr, liftR, tAndM, tOrM, tNotM, tB, tTr, truD, e2, e1, eChain, eVar, eC, eL, eIf, eAnd, eOr, eNot, eTup, eLst, eBits, aCons, aNil, Res.bind, asgR, asgL, Pat.asg, List.map_cons, List.map_nil, List.set, Option.bind, Option.bind_some, List.getElem?_cons_succ, List.getElem?_cons_zero, List.length_cons, List.length_nil, List.replicate_succ, List.replicate_zero, List.cons_append, List.nil_append, Nat.reduceAdd, Nat.reduceSub, Nat.reduceLeDiff, Nat.zero_add, decide_true, decide_false, if_true, if_false, Bool.false_eq_true, Bool.not_true, Bool.not_false, eq_ii, ne_ii, lt_ii, gt_ii, le_ii, ge_ii, add_ii, sub_ii, mm, q1, e2', el]
theorem ev_are_sums_right {M : Mem} {a n c : Nat} (D0 : Dk M a n c) (hc : c < 800000) : ∃ M', m_law_are_sums_right [.own n] M = .ok (.bl true) M' ∧ Dk M' a n (c + 6) := by
  obtain ⟨x1, y1, M1, f1, h1, D1, g1⟩ := ev_law_fraction D0 (by omega)
  obtain ⟨x2, y2, M2, f2, h2, D2, g2⟩ := ev_law_fraction D1 (by omega)
  obtain ⟨x3, y3, M3, f3, h3, D3, g3⟩ := ev_law_fraction D2 (by omega)
  obtain ⟨xa, ya, pa, la, qa, ha⟩ := ev_plus h1 h2 (by omega)
  obtain ⟨xb, yb, pb, lb, qb, hb⟩ := ev_plus h2 h1 (by omega)
  obtain ⟨xc, yc, pc, lc, qc, hc'⟩ := ev_plus ha h3 (by omega)
  obtain ⟨xd, yd, pd, ld, qd, hd⟩ := ev_plus h2 h3 (by omega)
  obtain ⟨xe, ye, pe, le, qe, he⟩ := ev_plus h1 hd (by omega)
  obtain ⟨xf, yf, pf, lf, qf, hf⟩ := ev_plus h1 (x2 := -x1) (y2 := y1) (t := 6) ⟨h1.y0, by rw [Int.natAbs_neg]; exact h1.co, by rw [Int.natAbs_neg]; exact h1.bx, h1.by_⟩ (by omega)
  obtain ⟨xg, yg, pg, lg, qg, hg⟩ := ev_times_fr h1 hd (by omega)
  obtain ⟨xh, yh, ph, lh, qh, hh⟩ := ev_times_fr h1 h2 (by omega)
  have Y1 := h1.y0
  have Y2 := h2.y0
  have Y3 := h3.y0
  obtain ⟨rfl, rfl⟩ := qb.unique qa (Nat.mul_pos Y2 Y1) (Nat.mul_pos Y1 Y2) (by simp only [Int.natCast_mul]; grind)
  obtain ⟨rfl, rfl⟩ := qe.unique qc (Nat.mul_pos Y1 hd.y0) (Nat.mul_pos ha.y0 Y3) (by
    have E1 := qa.eq
    have E2 := qd.eq
    simp only [Int.natCast_mul] at E1 E2 ⊢
    have hy2 : (y2 : Int) ≠ 0 := by omega
    refine Int.eq_of_mul_eq_mul_left hy2 ?_
    have l : (y2 : Int) * ((x1 * yd + xd * y1) * (yb * y3)) = x1 * yd * yb * y3 * y2 + (xd * (y2 * y3)) * y1 * yb := by grind
    have r : (y2 : Int) * ((xb * y3 + x3 * yb) * (y1 * yd)) = (xb * (y1 * y2)) * y3 * yd + x3 * yb * y1 * yd * y2 := by grind
    rw [l, r, E1, E2]
    grind)
  obtain ⟨rfl, rfl⟩ := qf.unique (n' := 0) (d' := 1) (x' := 0) (y' := 1) ⟨by omega, by decide, rfl, Nat.le_refl _, Nat.le_refl _⟩ (Nat.mul_pos Y1 Y1) (by omega) (by grind)
  have one : ((1 : Nat) : Int) = 1 := rfl
  have sd : ∀ {s : Nat} {x : Int} {y : Nat}, Fr s x y → s ≤ 399 → Sd 1206 2 (T3 x y 1) := fun {s x y} h hs => sd_t3 (Nat.le_trans (bits_f h.bx) (by omega)) (Nat.le_trans (bits_p h.by_) (by omega)) (by decide) 1
  have sm := same_of M3 ((((((((SdL.nil 2).cons (sd hh (by omega))).cons (sd hg (by omega))).cons (sd hf (by omega))).cons (sd he (by omega))).cons (sd he (by omega))).cons (sd hb (by omega))).cons (sd hb (by omega))).lst (by omega) (by omega)
  simp only [one] at sm
  simp only [one] at pf
  refine ⟨M3, ?_, D3.up (by omega)⟩
  have lcv : eLc (iRange1 (aCons (eC (.int 3)) aNil)) (.nm 8) [8] cYes (e2 addD (eL m_law_fraction (aCons (eVar 0) (aCons (eC (.int 40)) (aCons (eLst (aCons (eC (.int 1)) (aCons (eC (.int 2)) (aCons (eC (.int 3)) (aCons (eC (.int 7)) (aCons (eC (.int 12)) aNil)))))) aNil)))) (eTup (aCons (eC (.int 1)) aNil))) [some (.own n), none, none, none, none, none, none, none, none] M = .ok (.lst [T3 x1 y1 1, T3 x2 y2 1, T3 x3 y3 1]) M3 := by
    unfold eLc
    rw [show iRange1 (aCons (eC (.int 3)) aNil) [some (.own n), none, none, none, none, none, none, none, none] M = .ok [.int 0, .int 1, .int 2] M from rfl]
    show lcR (lcL _ _ _ [some (.own n), none, none, none, none, none, none, none, none] [.int 0, .int 1, .int 2] M) = _
    rw [lc_cons (ρ1 := [some (.own n), none, none, none, none, none, none, none, some (.int 0)]) (x := T3 x1 y1 1) (M2 := M1) rfl rfl (by simp only [runB, sSeq, sIf, sNil, sPass, sCont, sPar, sAsg, sRet, sExpr, liftR, tAndM, tOrM, tNotM, tB, tTr, truD, e2, e1, eChain, eVar, eC, eL, eIf, eAnd, eOr, eNot, eTup, eLst, eBits, aCons, aNil, Res.bind, asgR, asgL, Pat.asg, List.map_cons, List.map_nil, List.set, Option.bind, Option.bind_some, List.getElem?_cons_succ, List.getElem?_cons_zero, List.length_cons, List.length_nil, List.replicate_succ, List.replicate_zero, List.cons_append, List.nil_append, Nat.reduceAdd, Nat.reduceSub, Nat.reduceLeDiff, Nat.zero_add, decide_true, decide_false, if_true, if_false, Bool.false_eq_true, Bool.not_true, Bool.not_false, eq_ii, ne_ii, lt_ii, gt_ii, le_ii, ge_ii, add_ii, sub_ii, f1, add_t2]) (lc_cons (ρ1 := [some (.own n), none, none, none, none, none, none, none, some (.int 1)]) (x := T3 x2 y2 1) (M2 := M2) rfl rfl (by simp only [runB, sSeq, sIf, sNil, sPass, sCont, sPar, sAsg, sRet, sExpr, liftR, tAndM, tOrM, tNotM, tB, tTr, truD, e2, e1, eChain, eVar, eC, eL, eIf, eAnd, eOr, eNot, eTup, eLst, eBits, aCons, aNil, Res.bind, asgR, asgL, Pat.asg, List.map_cons, List.map_nil, List.set, Option.bind, Option.bind_some, List.getElem?_cons_succ, List.getElem?_cons_zero, List.length_cons, List.length_nil, List.replicate_succ, List.replicate_zero, List.cons_append, List.nil_append, Nat.reduceAdd, Nat.reduceSub, Nat.reduceLeDiff, Nat.zero_add, decide_true, decide_false, if_true, if_false, Bool.false_eq_true, Bool.not_true, Bool.not_false, eq_ii, ne_ii, lt_ii, gt_ii, le_ii, ge_ii, add_ii, sub_ii, f2, add_t2]) (lc_cons (ρ1 := [some (.own n), none, none, none, none, none, none, none, some (.int 2)]) (x := T3 x3 y3 1) (M2 := M3) (xs := []) (M' := M3) rfl rfl (by simp only [runB, sSeq, sIf, sNil, sPass, sCont, sPar, sAsg, sRet, sExpr, liftR, tAndM, tOrM, tNotM, tB, tTr, truD, e2, e1, eChain, eVar, eC, eL, eIf, eAnd, eOr, eNot, eTup, eLst, eBits, aCons, aNil, Res.bind, asgR, asgL, Pat.asg, List.map_cons, List.map_nil, List.set, Option.bind, Option.bind_some, List.getElem?_cons_succ, List.getElem?_cons_zero, List.length_cons, List.length_nil, List.replicate_succ, List.replicate_zero, List.cons_append, List.nil_append, Nat.reduceAdd, Nat.reduceSub, Nat.reduceLeDiff, Nat.zero_add, decide_true, decide_false, if_true, if_false, Bool.false_eq_true, Bool.not_true, Bool.not_false, eq_ii, ne_ii, lt_ii, gt_ii, le_ii, ge_ii, add_ii, sub_ii, f3, add_t2]) rfl))]
    rfl
  unfold m_law_are_sums_right b_law_are_sums_right
  refine run_rt ?_
  refine (seq_nx (by simp only [runB, sSeq, sIf, sNil, sPass, sCont, sPar, sAsg, sRet, sExpr, liftR, tAndM, tOrM, tNotM, tB, tTr, truD, e2, e1, eChain, eVar, eC, eL, eIf, eAnd, eOr, eNot, eTup, eLst, eBits, aCons, aNil, Res.bind, asgR, asgL, Pat.asg, List.map_cons, List.map_nil, List.set, Option.bind, Option.bind_some, List.getElem?_cons_succ, List.getElem?_cons_zero, List.length_cons, List.length_nil, List.replicate_succ, List.replicate_zero, List.cons_append, List.nil_append, Nat.reduceAdd, Nat.reduceSub, Nat.reduceLeDiff, Nat.zero_add, decide_true, decide_false, if_true, if_false, Bool.false_eq_true, Bool.not_true, Bool.not_false, eq_ii, ne_ii, lt_ii, gt_ii, le_ii, ge_ii, add_ii, sub_ii, lcv]; rfl)).trans ?_
  refine (seq_nx (by simp only [runB, sSeq, sIf, sNil, sPass, sCont, sPar, sAsg, sRet, sExpr, liftR, tAndM, tOrM, tNotM, tB, tTr, truD, e2, e1, eChain, eVar, eC, eL, eIf, eAnd, eOr, eNot, eTup, eLst, eBits, aCons, aNil, Res.bind, asgR, asgL, Pat.asg, List.map_cons, List.map_nil, List.set, Option.bind, Option.bind_some, List.getElem?_cons_succ, List.getElem?_cons_zero, List.length_cons, List.length_nil, List.replicate_succ, List.replicate_zero, List.cons_append, List.nil_append, Nat.reduceAdd, Nat.reduceSub, Nat.reduceLeDiff, Nat.zero_add, decide_true, decide_false, if_true, if_false, Bool.false_eq_true, Bool.not_true, Bool.not_false, eq_ii, ne_ii, lt_ii, gt_ii, le_ii, ge_ii, add_ii, sub_ii]; rfl)).trans ?_
  refine (seq_nx (by simp only [runB, sSeq, sIf, sNil, sPass, sCont, sPar, sAsg, sRet, sExpr, liftR, tAndM, tOrM, tNotM, tB, tTr, truD, e2, e1, eChain, eVar, eC, eL, eIf, eAnd, eOr, eNot, eTup, eLst, eBits, aCons, aNil, Res.bind, asgR, asgL, Pat.asg, List.map_cons, List.map_nil, List.set, Option.bind, Option.bind_some, List.getElem?_cons_succ, List.getElem?_cons_zero, List.length_cons, List.length_nil, List.replicate_succ, List.replicate_zero, List.cons_append, List.nil_append, Nat.reduceAdd, Nat.reduceSub, Nat.reduceLeDiff, Nat.zero_add, decide_true, decide_false, if_true, if_false, Bool.false_eq_true, Bool.not_true, Bool.not_false, eq_ii, ne_ii, lt_ii, gt_ii, le_ii, ge_ii, add_ii, sub_ii, eSl, oNone, oSome, sl2, la, add_t2]; rfl)).trans ?_
  refine (seq_nx (by simp only [runB, sSeq, sIf, sNil, sPass, sCont, sPar, sAsg, sRet, sExpr, liftR, tAndM, tOrM, tNotM, tB, tTr, truD, e2, e1, eChain, eVar, eC, eL, eIf, eAnd, eOr, eNot, eTup, eLst, eBits, aCons, aNil, Res.bind, asgR, asgL, Pat.asg, List.map_cons, List.map_nil, List.set, Option.bind, Option.bind_some, List.getElem?_cons_succ, List.getElem?_cons_zero, List.length_cons, List.length_nil, List.replicate_succ, List.replicate_zero, List.cons_append, List.nil_append, Nat.reduceAdd, Nat.reduceSub, Nat.reduceLeDiff, Nat.zero_add, decide_true, decide_false, if_true, if_false, Bool.false_eq_true, Bool.not_true, Bool.not_false, eq_ii, ne_ii, lt_ii, gt_ii, le_ii, ge_ii, add_ii, sub_ii, pa, pb, pc, pd, pe, pf, pg, ph, ix0, ix1, negD, eK, permD, List.filterMap_cons, List.filterMap_nil, eq_self, and_self]; rfl)).trans ?_
  refine (seq_nx (by simp only [runB, sSeq, sIf, sNil, sPass, sCont, sPar, sAsg, sRet, sExpr, liftR, tAndM, tOrM, tNotM, tB, tTr, truD, e2, e1, eChain, eVar, eC, eL, eIf, eAnd, eOr, eNot, eTup, eLst, eBits, aCons, aNil, Res.bind, asgR, asgL, Pat.asg, List.map_cons, List.map_nil, List.set, Option.bind, Option.bind_some, List.getElem?_cons_succ, List.getElem?_cons_zero, List.length_cons, List.length_nil, List.replicate_succ, List.replicate_zero, List.cons_append, List.nil_append, Nat.reduceAdd, Nat.reduceSub, Nat.reduceLeDiff, Nat.zero_add, decide_true, decide_false, if_true, if_false, Bool.false_eq_true, Bool.not_true, Bool.not_false, eq_ii, ne_ii, lt_ii, gt_ii, le_ii, ge_ii, add_ii, sub_ii, eSl, oNone, oSome, sl2, lc, add_t2]; rfl)).trans ?_
  simp only [runB, sSeq, sIf, sNil, sPass, sCont, sPar, sAsg, sRet, sExpr, liftR, tAndM, tOrM, tNotM, tB, tTr, truD, e2, e1, eChain, eVar, eC, eL, eIf, eAnd, eOr, eNot, eTup, eLst, eBits, aCons, aNil, Res.bind, asgR, asgL, Pat.asg, List.map_cons, List.map_nil, List.set, Option.bind, Option.bind_some, List.getElem?_cons_succ, List.getElem?_cons_zero, List.length_cons, List.length_nil, List.replicate_succ, List.replicate_zero, List.cons_append, List.nil_append, Nat.reduceAdd, Nat.reduceSub, Nat.reduceLeDiff, Nat.zero_add, decide_true, decide_false, if_true, if_false, Bool.false_eq_true, Bool.not_true, Bool.not_false, eq_ii, ne_ii, lt_ii, gt_ii, le_ii, ge_ii, add_ii, sub_ii, eSl, oNone, oSome, sl2, ld, lg, lh, add_t2, sm]
end K02
namespace K02
open PySem PySem.Spec DL NT
abbrev bads : List D := [.non, .tup [.int 1, .int 2], T3 2 4 1, T3 4 1 2, T3 0 1 2, .lst [.int 1, .int 1, .int 1], .tup [.int 1, .int 1, .bl true]]
abbrev odds : List D := [.non, .int 1, T3 9 1 2, T3 1 0 1]
theorem bad_non : Bad .non := ⟨fun M => ev_form_odd ⟨_, rfl⟩ M (fun l e => by cases e), (sd_non 3).up (by omega) (by omega)⟩
theorem bads_ok : ∀ x ∈ bads, Bad x := by
  have b1 : Builtin.Int.intBits 1 ≤ 400 := by decide
  have b2 : Builtin.Int.intBits 2 ≤ 400 := by decide
  intro x hx
  simp only [List.mem_cons, List.not_mem_nil, or_false] at hx
  rcases hx with rfl | rfl | rfl | rfl | rfl | rfl | rfl
  · exact bad_non
  · refine ⟨fun M => ev_form_odd ⟨_, rfl⟩ M (fun l e => ?_), (((SdL.nil 2).cons (sd_int b2 2)).cons (sd_int b1 2)).tup.up (by omega) (by omega)⟩
    cases e
    refine ⟨fun y hy => ?_, by simp, fun h => by simp at h⟩
    simp only [List.mem_cons, List.not_mem_nil, or_false] at hy
    rcases hy with rfl | rfl <;> exact pl_int _
  · exact bad_ints (fun h => by have := h.2.2.1; exact absurd this (by decide)) (by decide) (by decide) (by decide) (by omega)
  · refine bad_ints (fun h => ?_) (by decide) (by decide) (by decide) (by omega)
    rcases h.2.2.2 with q | q
    · omega
    · exact q.2 2 (by omega) ⟨1, by decide⟩ ⟨2, by decide⟩ ⟨1, by decide⟩
  · refine bad_ints (fun h => ?_) (by decide) (by decide) (by decide) (by omega)
    rcases h.2.2.2 with q | q
    · omega
    · have := q.1
      omega
  · exact ⟨fun M => ev_form_odd ⟨_, rfl⟩ M (fun l e => by cases e), ((((SdL.nil 2).cons (sd_int b1 2)).cons (sd_int b1 2)).cons (sd_int b1 2)).lst.up (by omega) (by omega)⟩
  · exact ⟨fun M => ev_form_odd ⟨_, rfl⟩ M (odd3 (pl_int _) (pl_int _) ⟨_, rfl⟩ rfl), ((((SdL.nil 2).cons (sd_bl _ 2)).cons (sd_int b1 2)).cons (sd_int b1 2)).tup.up (by omega) (by omega)⟩
theorem odds_ok : ∀ x ∈ odds, Bad x := by
  have b1 : Builtin.Int.intBits 1 ≤ 400 := by decide
  intro x hx
  simp only [List.mem_cons, List.not_mem_nil, or_false] at hx
  rcases hx with rfl | rfl | rfl | rfl
  · exact bad_non
  · exact ⟨fun M => ev_form_odd ⟨_, rfl⟩ M (fun l e => by cases e), (sd_int b1 3).up (by omega) (by omega)⟩
  · refine bad_ints (fun h => ?_) (by decide) (by decide) (by decide) (by omega)
    rcases h.2.2.2 with q | q
    · omega
    · exact q.2 2 (by omega) ⟨1, by decide⟩ ⟨3, by decide⟩ ⟨1, by decide⟩
  · exact bad_ints (fun h => by have := h.1; omega) (by decide) (by decide) (by decide) (by omega)
abbrev bv (x : D) : D := .tup [.str "value", x]
abbrev bm (x : D) : D := .tup [.str "many", x]
theorem sd_bv {x : D} (s : Str) (hs : (s.cps.toList.all (fun c => decide (c < 16 ^ 8)) && decide (s.cps.size ≤ 100)) = true) (h : Sd 2000 3 x) : Sd 2200 4 (.tup [.str s, x]) :=
  (((SdL.nil 3).cons h).cons (sd_chr s hs 3)).tup.up (by omega) (by omega)
theorem lam_v {m : DL.Env → Mem → Res D} {ρ : DL.Env} {M : Mem} {v : D} (h : m ρ M = .exc ⟨"BadValue", v⟩ M) : eLam g_law_refused m ρ M = .ok (bv v) M := by
  unfold eLam g_law_refused
  rw [h]
  dsimp only
  unfold h_law_refused
  rw [if_pos rfl]
theorem lam_m {m : DL.Env → Mem → Res D} {ρ : DL.Env} {M : Mem} {v : D} (h : m ρ M = .exc ⟨"BadMany", v⟩ M) : eLam g_law_refused m ρ M = .ok (bm v) M := by
  unfold eLam g_law_refused
  rw [h]
  dsimp only
  unfold h_law_refused
  rw [if_neg (show ¬ ("BadMany" : Str) = "BadValue" by decide), if_pos rfl]
theorem need_bad {x : D} (M : Mem) (h : Bad x) : m_need_value [x] M = .exc ⟨"BadValue", x⟩ M := by
  have e := h.form M
  unfold m_need_value b_need_value
  simp only [runB, sSeq, sIf, sNil, sPass, sCont, sPar, sAsg, sRet, sExpr, liftR, tAndM, tOrM, tNotM, tB, tTr, truD, e2, e1, eChain, eVar, eC, eL, eIf, eAnd, eOr, eNot, eTup, eLst, eBits, aCons, aNil, Res.bind, asgR, asgL, Pat.asg, List.map_cons, List.map_nil, List.set, Option.bind, Option.bind_some, List.getElem?_cons_succ, List.getElem?_cons_zero, List.length_cons, List.length_nil, List.replicate_succ, List.replicate_zero, List.cons_append, List.nil_append, Nat.reduceAdd, Nat.reduceSub, Nat.reduceLeDiff, Nat.zero_add, decide_true, decide_false, if_true, if_false, Bool.false_eq_true, Bool.not_true, Bool.not_false, eq_ii, ne_ii, lt_ii, gt_ii, le_ii, ge_ii, add_ii, sub_ii, e, sRaise]
/-- values that are none above 0 -/
structure Lw (x : D) : Prop where
  ex : ∃ (i : Int) (d : Nat), x = T3 i d 1 ∧ i ≤ 0 ∧ Fr 6 i d
/-- roots -/
structure Fa (x : D) : Prop where
  ex : ∃ (n d k : Nat), x = T3 n d k ∧ k ≠ 1 ∧ V 6 6 n d k
theorem need_ok {a b k : Int} (M : Mem) (h : m_is_value_form [T3 a b k] M = .ok (.bl true) M) : m_need_value [T3 a b k] M = .ok .non M := by
  unfold m_need_value b_need_value
  simp only [runB, sSeq, sIf, sNil, sPass, sCont, sPar, sAsg, sRet, sExpr, liftR, tAndM, tOrM, tNotM, tB, tTr, truD, e2, e1, eChain, eVar, eC, eL, eIf, eAnd, eOr, eNot, eTup, eLst, eBits, aCons, aNil, Res.bind, asgR, asgL, Pat.asg, List.map_cons, List.map_nil, List.set, Option.bind, Option.bind_some, List.getElem?_cons_succ, List.getElem?_cons_zero, List.length_cons, List.length_nil, List.replicate_succ, List.replicate_zero, List.cons_append, List.nil_append, Nat.reduceAdd, Nat.reduceSub, Nat.reduceLeDiff, Nat.zero_add, decide_true, decide_false, if_true, if_false, Bool.false_eq_true, Bool.not_true, Bool.not_false, eq_ii, ne_ii, lt_ii, gt_ii, le_ii, ge_ii, add_ii, sub_ii, h]
theorem times_bad {x y : D} (M : Mem) (h : Bad x) : m_times [x, y] M = .exc ⟨"BadValue", x⟩ M := by
  have e := need_bad M h
  unfold m_times b_times
  simp only [runB, sSeq, sIf, sNil, sPass, sCont, sPar, sAsg, sRet, sExpr, liftR, tAndM, tOrM, tNotM, tB, tTr, truD, e2, e1, eChain, eVar, eC, eL, eIf, eAnd, eOr, eNot, eTup, eLst, eBits, aCons, aNil, Res.bind, asgR, asgL, Pat.asg, List.map_cons, List.map_nil, List.set, Option.bind, Option.bind_some, List.getElem?_cons_succ, List.getElem?_cons_zero, List.length_cons, List.length_nil, List.replicate_succ, List.replicate_zero, List.cons_append, List.nil_append, Nat.reduceAdd, Nat.reduceSub, Nat.reduceLeDiff, Nat.zero_add, decide_true, decide_false, if_true, if_false, Bool.false_eq_true, Bool.not_true, Bool.not_false, eq_ii, ne_ii, lt_ii, gt_ii, le_ii, ge_ii, add_ii, sub_ii, e]
theorem times_low_bad {x y : D} (M : Mem) (hx : Lw x) (h : Bad y) : m_times [x, y] M = .exc ⟨"BadValue", y⟩ M := by
  obtain ⟨i, d, rfl, hi, fr⟩ := hx.ex
  have e1' := fr.need (by omega) M
  have e2' := need_bad M h
  unfold m_times b_times
  simp only [runB, sSeq, sIf, sNil, sPass, sCont, sPar, sAsg, sRet, sExpr, liftR, tAndM, tOrM, tNotM, tB, tTr, truD, e2, e1, eChain, eVar, eC, eL, eIf, eAnd, eOr, eNot, eTup, eLst, eBits, aCons, aNil, Res.bind, asgR, asgL, Pat.asg, List.map_cons, List.map_nil, List.set, Option.bind, Option.bind_some, List.getElem?_cons_succ, List.getElem?_cons_zero, List.length_cons, List.length_nil, List.replicate_succ, List.replicate_zero, List.cons_append, List.nil_append, Nat.reduceAdd, Nat.reduceSub, Nat.reduceLeDiff, Nat.zero_add, decide_true, decide_false, if_true, if_false, Bool.false_eq_true, Bool.not_true, Bool.not_false, eq_ii, ne_ii, lt_ii, gt_ii, le_ii, ge_ii, add_ii, sub_ii, e1', e2']
theorem times_low_far {x y : D} (M : Mem) (hx : Lw x) (hy : Fa y) : m_times [x, y] M = .exc ⟨"BadValue", x⟩ M := by
  obtain ⟨i, d, rfl, hi, fr⟩ := hx.ex
  obtain ⟨n, e, k, rfl, hk, v⟩ := hy.ex
  have e1' := fr.need (by omega) M
  have e2' := v.need (by omega) (by omega) M
  have k1 : ¬ (1 : Int) = (k : Int) := by omega
  unfold m_times b_times
  refine run_exc (e := ⟨"BadValue", T3 i d 1⟩) (ρ1 := _) ((seq_nx (ρ1 := [some (T3 i d 1), some (T3 n e k), none]) (M1 := M) (by simp only [runB, sSeq, sIf, sNil, sPass, sCont, sPar, sAsg, sRet, sExpr, liftR, tAndM, tOrM, tNotM, tB, tTr, truD, e2, e1, eChain, eVar, eC, eL, eIf, eAnd, eOr, eNot, eTup, eLst, eBits, aCons, aNil, Res.bind, asgR, asgL, Pat.asg, List.map_cons, List.map_nil, List.set, Option.bind, Option.bind_some, List.getElem?_cons_succ, List.getElem?_cons_zero, List.length_cons, List.length_nil, List.replicate_succ, List.replicate_zero, List.cons_append, List.nil_append, Nat.reduceAdd, Nat.reduceSub, Nat.reduceLeDiff, Nat.zero_add, decide_true, decide_false, if_true, if_false, Bool.false_eq_true, Bool.not_true, Bool.not_false, eq_ii, ne_ii, lt_ii, gt_ii, le_ii, ge_ii, add_ii, sub_ii, e1'])).trans ((seq_nx (ρ1 := [some (T3 i d 1), some (T3 n e k), none]) (M1 := M) (by simp only [runB, sSeq, sIf, sNil, sPass, sCont, sPar, sAsg, sRet, sExpr, liftR, tAndM, tOrM, tNotM, tB, tTr, truD, e2, e1, eChain, eVar, eC, eL, eIf, eAnd, eOr, eNot, eTup, eLst, eBits, aCons, aNil, Res.bind, asgR, asgL, Pat.asg, List.map_cons, List.map_nil, List.set, Option.bind, Option.bind_some, List.getElem?_cons_succ, List.getElem?_cons_zero, List.length_cons, List.length_nil, List.replicate_succ, List.replicate_zero, List.cons_append, List.nil_append, Nat.reduceAdd, Nat.reduceSub, Nat.reduceLeDiff, Nat.zero_add, decide_true, decide_false, if_true, if_false, Bool.false_eq_true, Bool.not_true, Bool.not_false, eq_ii, ne_ii, lt_ii, gt_ii, le_ii, ge_ii, add_ii, sub_ii, e2'])).trans ((seq_nx (ρ1 := [some (T3 i d 1), some (T3 n e k), none]) (M1 := M) (by simp only [runB, sSeq, sIf, sNil, sPass, sCont, sPar, sAsg, sRet, sExpr, liftR, tAndM, tOrM, tNotM, tB, tTr, truD, e2, e1, eChain, eVar, eC, eL, eIf, eAnd, eOr, eNot, eTup, eLst, eBits, aCons, aNil, Res.bind, asgR, asgL, Pat.asg, List.map_cons, List.map_nil, List.set, Option.bind, Option.bind_some, List.getElem?_cons_succ, List.getElem?_cons_zero, List.length_cons, List.length_nil, List.replicate_succ, List.replicate_zero, List.cons_append, List.nil_append, Nat.reduceAdd, Nat.reduceSub, Nat.reduceLeDiff, Nat.zero_add, decide_true, decide_false, if_true, if_false, Bool.false_eq_true, Bool.not_true, Bool.not_false, eq_ii, ne_ii, lt_ii, gt_ii, le_ii, ge_ii, add_ii, sub_ii, ix2, k1])).trans (seq_exc (ρ1 := [some (T3 i d 1), some (T3 n e k), some (T3 i d 1)]) ?_))))
  simp only [runB, sSeq, sIf, sNil, sPass, sCont, sPar, sAsg, sRet, sExpr, liftR, tAndM, tOrM, tNotM, tB, tTr, truD, e2, e1, eChain, eVar, eC, eL, eIf, eAnd, eOr, eNot, eTup, eLst, eBits, aCons, aNil, Res.bind, asgR, asgL, Pat.asg, List.map_cons, List.map_nil, List.set, Option.bind, Option.bind_some, List.getElem?_cons_succ, List.getElem?_cons_zero, List.length_cons, List.length_nil, List.replicate_succ, List.replicate_zero, List.cons_append, List.nil_append, Nat.reduceAdd, Nat.reduceSub, Nat.reduceLeDiff, Nat.zero_add, decide_true, decide_false, if_true, if_false, Bool.false_eq_true, Bool.not_true, Bool.not_false, eq_ii, ne_ii, lt_ii, gt_ii, le_ii, ge_ii, add_ii, sub_ii, sFor, iSeq, seqOf, forL, ix0, hi, sRaise]
theorem times_far_low {x y : D} (M : Mem) (hx : Lw x) (hy : Fa y) : m_times [y, x] M = .exc ⟨"BadValue", x⟩ M := by
  obtain ⟨i, d, rfl, hi, fr⟩ := hx.ex
  obtain ⟨n, e, k, rfl, hk, v⟩ := hy.ex
  have e1' := fr.need (by omega) M
  have e2' := v.need (by omega) (by omega) M
  have k1 : ¬ (k : Int) = 1 := by omega
  have n0 : ¬ (n : Int) ≤ 0 := by have := v.v.x0; omega
  unfold m_times b_times
  refine run_exc (e := ⟨"BadValue", T3 i d 1⟩) (ρ1 := _) ((seq_nx (ρ1 := [some (T3 n e k), some (T3 i d 1), none]) (M1 := M) (by simp only [runB, sSeq, sIf, sNil, sPass, sCont, sPar, sAsg, sRet, sExpr, liftR, tAndM, tOrM, tNotM, tB, tTr, truD, e2, e1, eChain, eVar, eC, eL, eIf, eAnd, eOr, eNot, eTup, eLst, eBits, aCons, aNil, Res.bind, asgR, asgL, Pat.asg, List.map_cons, List.map_nil, List.set, Option.bind, Option.bind_some, List.getElem?_cons_succ, List.getElem?_cons_zero, List.length_cons, List.length_nil, List.replicate_succ, List.replicate_zero, List.cons_append, List.nil_append, Nat.reduceAdd, Nat.reduceSub, Nat.reduceLeDiff, Nat.zero_add, decide_true, decide_false, if_true, if_false, Bool.false_eq_true, Bool.not_true, Bool.not_false, eq_ii, ne_ii, lt_ii, gt_ii, le_ii, ge_ii, add_ii, sub_ii, e2'])).trans ((seq_nx (ρ1 := [some (T3 n e k), some (T3 i d 1), none]) (M1 := M) (by simp only [runB, sSeq, sIf, sNil, sPass, sCont, sPar, sAsg, sRet, sExpr, liftR, tAndM, tOrM, tNotM, tB, tTr, truD, e2, e1, eChain, eVar, eC, eL, eIf, eAnd, eOr, eNot, eTup, eLst, eBits, aCons, aNil, Res.bind, asgR, asgL, Pat.asg, List.map_cons, List.map_nil, List.set, Option.bind, Option.bind_some, List.getElem?_cons_succ, List.getElem?_cons_zero, List.length_cons, List.length_nil, List.replicate_succ, List.replicate_zero, List.cons_append, List.nil_append, Nat.reduceAdd, Nat.reduceSub, Nat.reduceLeDiff, Nat.zero_add, decide_true, decide_false, if_true, if_false, Bool.false_eq_true, Bool.not_true, Bool.not_false, eq_ii, ne_ii, lt_ii, gt_ii, le_ii, ge_ii, add_ii, sub_ii, e1'])).trans ((seq_nx (ρ1 := [some (T3 n e k), some (T3 i d 1), none]) (M1 := M) (by simp only [runB, sSeq, sIf, sNil, sPass, sCont, sPar, sAsg, sRet, sExpr, liftR, tAndM, tOrM, tNotM, tB, tTr, truD, e2, e1, eChain, eVar, eC, eL, eIf, eAnd, eOr, eNot, eTup, eLst, eBits, aCons, aNil, Res.bind, asgR, asgL, Pat.asg, List.map_cons, List.map_nil, List.set, Option.bind, Option.bind_some, List.getElem?_cons_succ, List.getElem?_cons_zero, List.length_cons, List.length_nil, List.replicate_succ, List.replicate_zero, List.cons_append, List.nil_append, Nat.reduceAdd, Nat.reduceSub, Nat.reduceLeDiff, Nat.zero_add, decide_true, decide_false, if_true, if_false, Bool.false_eq_true, Bool.not_true, Bool.not_false, eq_ii, ne_ii, lt_ii, gt_ii, le_ii, ge_ii, add_ii, sub_ii, ix2, k1])).trans (seq_exc (ρ1 := [some (T3 n e k), some (T3 i d 1), some (T3 i d 1)]) ?_))))
  simp only [runB, sSeq, sIf, sNil, sPass, sCont, sPar, sAsg, sRet, sExpr, liftR, tAndM, tOrM, tNotM, tB, tTr, truD, e2, e1, eChain, eVar, eC, eL, eIf, eAnd, eOr, eNot, eTup, eLst, eBits, aCons, aNil, Res.bind, asgR, asgL, Pat.asg, List.map_cons, List.map_nil, List.set, Option.bind, Option.bind_some, List.getElem?_cons_succ, List.getElem?_cons_zero, List.length_cons, List.length_nil, List.replicate_succ, List.replicate_zero, List.cons_append, List.nil_append, Nat.reduceAdd, Nat.reduceSub, Nat.reduceLeDiff, Nat.zero_add, decide_true, decide_false, if_true, if_false, Bool.false_eq_true, Bool.not_true, Bool.not_false, eq_ii, ne_ii, lt_ii, gt_ii, le_ii, ge_ii, add_ii, sub_ii, sFor, iSeq, seqOf, forL, ix0, hi, n0, sRaise]
theorem plus_bad {x y : D} (M : Mem) (h : Bad x) : m_plus [x, y] M = .exc ⟨"BadValue", x⟩ M := by
  have e := h.form M
  have f : m_is_fraction_value [x] M = .ok (.bl false) M := by
    unfold m_is_fraction_value b_is_fraction_value
    simp only [runB, sSeq, sIf, sNil, sPass, sCont, sPar, sAsg, sRet, sExpr, liftR, tAndM, tOrM, tNotM, tB, tTr, truD, e2, e1, eChain, eVar, eC, eL, eIf, eAnd, eOr, eNot, eTup, eLst, eBits, aCons, aNil, Res.bind, asgR, asgL, Pat.asg, List.map_cons, List.map_nil, List.set, Option.bind, Option.bind_some, List.getElem?_cons_succ, List.getElem?_cons_zero, List.length_cons, List.length_nil, List.replicate_succ, List.replicate_zero, List.cons_append, List.nil_append, Nat.reduceAdd, Nat.reduceSub, Nat.reduceLeDiff, Nat.zero_add, decide_true, decide_false, if_true, if_false, Bool.false_eq_true, Bool.not_true, Bool.not_false, eq_ii, ne_ii, lt_ii, gt_ii, le_ii, ge_ii, add_ii, sub_ii, e]
  unfold m_plus b_plus
  simp only [runB, sSeq, sIf, sNil, sPass, sCont, sPar, sAsg, sRet, sExpr, liftR, tAndM, tOrM, tNotM, tB, tTr, truD, e2, e1, eChain, eVar, eC, eL, eIf, eAnd, eOr, eNot, eTup, eLst, eBits, aCons, aNil, Res.bind, asgR, asgL, Pat.asg, List.map_cons, List.map_nil, List.set, Option.bind, Option.bind_some, List.getElem?_cons_succ, List.getElem?_cons_zero, List.length_cons, List.length_nil, List.replicate_succ, List.replicate_zero, List.cons_append, List.nil_append, Nat.reduceAdd, Nat.reduceSub, Nat.reduceLeDiff, Nat.zero_add, decide_true, decide_false, if_true, if_false, Bool.false_eq_true, Bool.not_true, Bool.not_false, eq_ii, ne_ii, lt_ii, gt_ii, le_ii, ge_ii, add_ii, sub_ii, sFor, iSeq, seqOf, forL, f, sRaise]
theorem far_frac {n d k : Nat} (M : Mem) (hk : k ≠ 1) (v : V 6 6 n d k) : m_is_fraction_value [T3 n d k] M = .ok (.bl false) M := by
  have e := v.form (by omega) (by omega) M
  have k1 : ¬ (k : Int) = 1 := by omega
  unfold m_is_fraction_value b_is_fraction_value
  simp only [runB, sSeq, sIf, sNil, sPass, sCont, sPar, sAsg, sRet, sExpr, liftR, tAndM, tOrM, tNotM, tB, tTr, truD, e2, e1, eChain, eVar, eC, eL, eIf, eAnd, eOr, eNot, eTup, eLst, eBits, aCons, aNil, Res.bind, asgR, asgL, Pat.asg, List.map_cons, List.map_nil, List.set, Option.bind, Option.bind_some, List.getElem?_cons_succ, List.getElem?_cons_zero, List.length_cons, List.length_nil, List.replicate_succ, List.replicate_zero, List.cons_append, List.nil_append, Nat.reduceAdd, Nat.reduceSub, Nat.reduceLeDiff, Nat.zero_add, decide_true, decide_false, if_true, if_false, Bool.false_eq_true, Bool.not_true, Bool.not_false, eq_ii, ne_ii, lt_ii, gt_ii, le_ii, ge_ii, add_ii, sub_ii, e, ix2, k1]
theorem plus_far {x y : D} (M : Mem) (h : Fa x) : m_plus [x, y] M = .exc ⟨"BadValue", x⟩ M := by
  obtain ⟨n, e, k, rfl, hk, v⟩ := h.ex
  have f := far_frac M hk v
  unfold m_plus b_plus
  simp only [runB, sSeq, sIf, sNil, sPass, sCont, sPar, sAsg, sRet, sExpr, liftR, tAndM, tOrM, tNotM, tB, tTr, truD, e2, e1, eChain, eVar, eC, eL, eIf, eAnd, eOr, eNot, eTup, eLst, eBits, aCons, aNil, Res.bind, asgR, asgL, Pat.asg, List.map_cons, List.map_nil, List.set, Option.bind, Option.bind_some, List.getElem?_cons_succ, List.getElem?_cons_zero, List.length_cons, List.length_nil, List.replicate_succ, List.replicate_zero, List.cons_append, List.nil_append, Nat.reduceAdd, Nat.reduceSub, Nat.reduceLeDiff, Nat.zero_add, decide_true, decide_false, if_true, if_false, Bool.false_eq_true, Bool.not_true, Bool.not_false, eq_ii, ne_ii, lt_ii, gt_ii, le_ii, ge_ii, add_ii, sub_ii, sFor, iSeq, seqOf, forL, f, sRaise]
theorem fr32 : Fr 6 3 2 := ⟨by omega, by decide, by decide, by decide⟩
theorem v32 : V 6 6 3 2 1 := ⟨⟨by omega, by omega, by omega, by decide, red_one⟩, by decide, by decide, by omega⟩
theorem plus_far2 {x : D} (M : Mem) (h : Fa x) : m_plus [T3 3 2 1, x] M = .exc ⟨"BadValue", x⟩ M := by
  obtain ⟨n, e, k, rfl, hk, v⟩ := h.ex
  have f := far_frac M hk v
  have f1 : m_is_fraction_value [T3 3 2 1] M = .ok (.bl true) M := fr32.frac (by omega) M
  unfold m_plus b_plus
  simp only [runB, sSeq, sIf, sNil, sPass, sCont, sPar, sAsg, sRet, sExpr, liftR, tAndM, tOrM, tNotM, tB, tTr, truD, e2, e1, eChain, eVar, eC, eL, eIf, eAnd, eOr, eNot, eTup, eLst, eBits, aCons, aNil, Res.bind, asgR, asgL, Pat.asg, List.map_cons, List.map_nil, List.set, Option.bind, Option.bind_some, List.getElem?_cons_succ, List.getElem?_cons_zero, List.length_cons, List.length_nil, List.replicate_succ, List.replicate_zero, List.cons_append, List.nil_append, Nat.reduceAdd, Nat.reduceSub, Nat.reduceLeDiff, Nat.zero_add, decide_true, decide_false, if_true, if_false, Bool.false_eq_true, Bool.not_true, Bool.not_false, eq_ii, ne_ii, lt_ii, gt_ii, le_ii, ge_ii, add_ii, sub_ii, sFor, iSeq, seqOf, forL, f, f1, sRaise]
theorem power_bad {x y z : D} (M : Mem) (h : Bad x) : m_power [x, y, z] M = .exc ⟨"BadValue", x⟩ M := by
  have e := h.form M
  have f : m_is_positive_value [x] M = .ok (.bl false) M := by
    unfold m_is_positive_value b_is_positive_value
    simp only [runB, sSeq, sIf, sNil, sPass, sCont, sPar, sAsg, sRet, sExpr, liftR, tAndM, tOrM, tNotM, tB, tTr, truD, e2, e1, eChain, eVar, eC, eL, eIf, eAnd, eOr, eNot, eTup, eLst, eBits, aCons, aNil, Res.bind, asgR, asgL, Pat.asg, List.map_cons, List.map_nil, List.set, Option.bind, Option.bind_some, List.getElem?_cons_succ, List.getElem?_cons_zero, List.length_cons, List.length_nil, List.replicate_succ, List.replicate_zero, List.cons_append, List.nil_append, Nat.reduceAdd, Nat.reduceSub, Nat.reduceLeDiff, Nat.zero_add, decide_true, decide_false, if_true, if_false, Bool.false_eq_true, Bool.not_true, Bool.not_false, eq_ii, ne_ii, lt_ii, gt_ii, le_ii, ge_ii, add_ii, sub_ii, e]
  unfold m_power b_power
  simp only [runB, sSeq, sIf, sNil, sPass, sCont, sPar, sAsg, sRet, sExpr, liftR, tAndM, tOrM, tNotM, tB, tTr, truD, e2, e1, eChain, eVar, eC, eL, eIf, eAnd, eOr, eNot, eTup, eLst, eBits, aCons, aNil, Res.bind, asgR, asgL, Pat.asg, List.map_cons, List.map_nil, List.set, Option.bind, Option.bind_some, List.getElem?_cons_succ, List.getElem?_cons_zero, List.length_cons, List.length_nil, List.replicate_succ, List.replicate_zero, List.cons_append, List.nil_append, Nat.reduceAdd, Nat.reduceSub, Nat.reduceLeDiff, Nat.zero_add, decide_true, decide_false, if_true, if_false, Bool.false_eq_true, Bool.not_true, Bool.not_false, eq_ii, ne_ii, lt_ii, gt_ii, le_ii, ge_ii, add_ii, sub_ii, f, sRaise]
theorem power_low {x y z : D} (M : Mem) (h : Lw x) : m_power [x, y, z] M = .exc ⟨"BadValue", x⟩ M := by
  obtain ⟨i, d, rfl, hi, fr⟩ := h.ex
  have e := fr.form (by omega) M
  have i0 : ¬ (0 : Int) < i := by omega
  have f : m_is_positive_value [T3 i d 1] M = .ok (.bl false) M := by
    unfold m_is_positive_value b_is_positive_value
    simp only [runB, sSeq, sIf, sNil, sPass, sCont, sPar, sAsg, sRet, sExpr, liftR, tAndM, tOrM, tNotM, tB, tTr, truD, e2, e1, eChain, eVar, eC, eL, eIf, eAnd, eOr, eNot, eTup, eLst, eBits, aCons, aNil, Res.bind, asgR, asgL, Pat.asg, List.map_cons, List.map_nil, List.set, Option.bind, Option.bind_some, List.getElem?_cons_succ, List.getElem?_cons_zero, List.length_cons, List.length_nil, List.replicate_succ, List.replicate_zero, List.cons_append, List.nil_append, Nat.reduceAdd, Nat.reduceSub, Nat.reduceLeDiff, Nat.zero_add, decide_true, decide_false, if_true, if_false, Bool.false_eq_true, Bool.not_true, Bool.not_false, eq_ii, ne_ii, lt_ii, gt_ii, le_ii, ge_ii, add_ii, sub_ii, e, ix0, i0]
  unfold m_power b_power
  simp only [runB, sSeq, sIf, sNil, sPass, sCont, sPar, sAsg, sRet, sExpr, liftR, tAndM, tOrM, tNotM, tB, tTr, truD, e2, e1, eChain, eVar, eC, eL, eIf, eAnd, eOr, eNot, eTup, eLst, eBits, aCons, aNil, Res.bind, asgR, asgL, Pat.asg, List.map_cons, List.map_nil, List.set, Option.bind, Option.bind_some, List.getElem?_cons_succ, List.getElem?_cons_zero, List.length_cons, List.length_nil, List.replicate_succ, List.replicate_zero, List.cons_append, List.nil_append, Nat.reduceAdd, Nat.reduceSub, Nat.reduceLeDiff, Nat.zero_add, decide_true, decide_false, if_true, if_false, Bool.false_eq_true, Bool.not_true, Bool.not_false, eq_ii, ne_ii, lt_ii, gt_ii, le_ii, ge_ii, add_ii, sub_ii, f, sRaise]
theorem power_num {y z : D} (M : Mem) (h : m_is_whole_between [y, .int (-64), .int 64] M = .ok (.bl false) M) : m_power [T3 3 2 1, y, z] M = .exc ⟨"BadMany", y⟩ M := by
  have f : m_is_positive_value [T3 3 2 1] M = .ok (.bl true) M := ev_pos_ok v32 (by omega) (by omega) M
  unfold m_power b_power
  simp only [runB, sSeq, sIf, sNil, sPass, sCont, sPar, sAsg, sRet, sExpr, liftR, tAndM, tOrM, tNotM, tB, tTr, truD, e2, e1, eChain, eVar, eC, eL, eIf, eAnd, eOr, eNot, eTup, eLst, eBits, aCons, aNil, Res.bind, asgR, asgL, Pat.asg, List.map_cons, List.map_nil, List.set, Option.bind, Option.bind_some, List.getElem?_cons_succ, List.getElem?_cons_zero, List.length_cons, List.length_nil, List.replicate_succ, List.replicate_zero, List.cons_append, List.nil_append, Nat.reduceAdd, Nat.reduceSub, Nat.reduceLeDiff, Nat.zero_add, decide_true, decide_false, if_true, if_false, Bool.false_eq_true, Bool.not_true, Bool.not_false, eq_ii, ne_ii, lt_ii, gt_ii, le_ii, ge_ii, add_ii, sub_ii, f, negD, h, sRaise]
theorem power_den {z : D} (M : Mem) (h : m_is_whole_between [z, .int 1, .int 64] M = .ok (.bl false) M) : m_power [T3 3 2 1, .int 1, z] M = .exc ⟨"BadMany", z⟩ M := by
  have f : m_is_positive_value [T3 3 2 1] M = .ok (.bl true) M := ev_pos_ok v32 (by omega) (by omega) M
  have g : m_is_whole_between [.int 1, .int (-64), .int 64] M = .ok (.bl true) M := between_ok M (by omega) (by omega) (by omega) (by omega)
  unfold m_power b_power
  simp only [runB, sSeq, sIf, sNil, sPass, sCont, sPar, sAsg, sRet, sExpr, liftR, tAndM, tOrM, tNotM, tB, tTr, truD, e2, e1, eChain, eVar, eC, eL, eIf, eAnd, eOr, eNot, eTup, eLst, eBits, aCons, aNil, Res.bind, asgR, asgL, Pat.asg, List.map_cons, List.map_nil, List.set, Option.bind, Option.bind_some, List.getElem?_cons_succ, List.getElem?_cons_zero, List.length_cons, List.length_nil, List.replicate_succ, List.replicate_zero, List.cons_append, List.nil_append, Nat.reduceAdd, Nat.reduceSub, Nat.reduceLeDiff, Nat.zero_add, decide_true, decide_false, if_true, if_false, Bool.false_eq_true, Bool.not_true, Bool.not_false, eq_ii, ne_ii, lt_ii, gt_ii, le_ii, ge_ii, add_ii, sub_ii, f, negD, g, h, sRaise]
theorem lows_ok : ∀ x ∈ ([T3 0 1 1, T3 (-1) 2 1] : List D), Lw x ∧ Sd 2000 3 x := by
  intro x hx
  simp only [List.mem_cons, List.not_mem_nil, or_false] at hx
  rcases hx with rfl | rfl
  · exact ⟨⟨0, 1, rfl, by omega, ⟨by omega, by decide, by decide, by decide⟩⟩, (sd_t3 (by decide) (by decide) (by decide) 2).up (by omega) (by omega)⟩
  · exact ⟨⟨-1, 2, rfl, by omega, ⟨by omega, by decide, by decide, by decide⟩⟩, (sd_t3 (by decide) (by decide) (by decide) 2).up (by omega) (by omega)⟩
theorem fars_ok : ∀ x ∈ ([T3 2 1 2, T3 1 3 3] : List D), Fa x ∧ Sd 2000 3 x := by
  intro x hx
  simp only [List.mem_cons, List.not_mem_nil, or_false] at hx
  rcases hx with rfl | rfl
  · refine ⟨⟨2, 1, 2, rfl, by omega, ⟨⟨by omega, by omega, by omega, by decide, fun p hp hd w _ => ?_⟩, by decide, by decide, by omega⟩⟩, (sd_t3 (by decide) (by decide) (by decide) 2).up (by omega) (by omega)⟩
    have := pw_small (n := 2) (by omega) (Nat.lt_of_lt_of_le (by decide : 2 < 2 ^ 2) (Nat.pow_le_pow_right (by decide) hp)) (by omega) w
    omega
  · refine ⟨⟨1, 3, 3, rfl, by omega, ⟨⟨by omega, by omega, by omega, by decide, fun p hp hd _ w => ?_⟩, by decide, by decide, by omega⟩⟩, (sd_t3 (by decide) (by decide) (by decide) 2).up (by omega) (by omega)⟩
    have := pw_small (n := 3) (by omega) (Nat.lt_of_lt_of_le (by decide : 3 < 2 ^ 2) (Nat.pow_le_pow_right (by decide) hp)) (by omega) w
    omega
theorem ev_are_refused {M : Mem} {a n c : Nat} (D0 : Dk M a n c) (hc : c < 900000) : ∃ M', m_law_are_refused [.own n] M = .ok (.bl true) M' := by
  obtain ⟨bad, M1, hbad, e1', D1, g1⟩ := pick_of D0 (by omega) bads (by decide) (by decide)
  obtain ⟨odd, M2, hodd, e2', D2, g2⟩ := pick_of D1 (by omega) odds (by decide) (by decide)
  obtain ⟨low, M3, hlow, e3', D3, g3⟩ := pick_of D2 (by omega) [T3 0 1 1, T3 (-1) 2 1] (by decide) (by decide)
  obtain ⟨far, M4, hfar, e4', D4, g4⟩ := pick_of D3 (by omega) [T3 2 1 2, T3 1 3 3] (by decide) (by decide)
  obtain ⟨num, M5, hnum, e5', D5, g5⟩ := pick_of D4 (by omega) [.non, .int 65, .int (-65), .bl true, .str "1"] (by decide) (by decide)
  obtain ⟨den, M6, hden, e6', D6, g6⟩ := pick_of D5 (by omega) [.int 0, .int (-1), .int 65, .bl true, .non] (by decide) (by decide)
  have B1 := bads_ok bad hbad
  have B2 := odds_ok odd hodd
  obtain ⟨Lw1, sl⟩ := lows_ok low hlow
  obtain ⟨Fa1, sf⟩ := fars_ok far hfar
  have Nn : (∀ M, m_is_whole_between [num, .int (-64), .int 64] M = .ok (.bl false) M) ∧ Sd 2000 3 num := by
    simp only [List.mem_cons, List.not_mem_nil, or_false] at hnum
    rcases hnum with rfl | rfl | rfl | rfl | rfl
    · exact ⟨fun M => between_odd M ⟨_, rfl⟩ rfl, (sd_non 3).up (by omega) (by omega)⟩
    · exact ⟨fun M => between_no M (by omega) (by omega) (by omega), (sd_one (by omega) (by omega) 3).up (by omega) (by omega)⟩
    · exact ⟨fun M => between_no M (by omega) (by omega) (by omega), (sd_one (by omega) (by omega) 3).up (by omega) (by omega)⟩
    · exact ⟨fun M => between_odd M ⟨_, rfl⟩ rfl, (sd_bl _ 3).up (by omega) (by omega)⟩
    · exact ⟨fun M => between_odd M ⟨_, rfl⟩ rfl, (sd_chr "1" (by decide) 3).up (by omega) (by omega)⟩
  have Dd : (∀ M, m_is_whole_between [den, .int 1, .int 64] M = .ok (.bl false) M) ∧ Sd 2000 3 den := by
    simp only [List.mem_cons, List.not_mem_nil, or_false] at hden
    rcases hden with rfl | rfl | rfl | rfl | rfl
    · exact ⟨fun M => between_no M (by omega) (by omega) (by omega), (sd_one (by omega) (by omega) 3).up (by omega) (by omega)⟩
    · exact ⟨fun M => between_no M (by omega) (by omega) (by omega), (sd_one (by omega) (by omega) 3).up (by omega) (by omega)⟩
    · exact ⟨fun M => between_no M (by omega) (by omega) (by omega), (sd_one (by omega) (by omega) 3).up (by omega) (by omega)⟩
    · exact ⟨fun M => between_odd M ⟨_, rfl⟩ rfl, (sd_bl _ 3).up (by omega) (by omega)⟩
    · exact ⟨fun M => between_odd M ⟨_, rfl⟩ rfl, (sd_non 3).up (by omega) (by omega)⟩
  simp only [bads, odds] at e1' e2'
  let h := M6.length
  let ρ : DL.Env := [some (.own n), some (.own h), none, some bad, some odd, some low, some far, some (T3 3 2 1), some num, some den, none]
  have hi : ρ[1]? = some (some (.own h)) := rfl
  suffices H : ∃ M', b_law_are_refused [some (.own n), none, none, none, none, none, none, none, none, none, none] M = .rt (.bl true) M' by
    obtain ⟨M', e⟩ := H
    exact ⟨M', run_rt e⟩
  unfold b_law_are_refused
  have st : ∀ {A B : SR} {d : D}, A = B → (∃ M', B = .rt d M') → ∃ M', A = .rt d M' := fun e h => e ▸ h
  refine st (seq_nx (ρ1 := [some (.own n), none, none, some bad, some odd, none, none, none, none, none, none]) (M1 := M2) (by simp only [runB, sSeq, sIf, sNil, sPass, sCont, sPar, sAsg, sRet, sExpr, liftR, tAndM, tOrM, tNotM, tB, tTr, truD, e2, e1, eChain, eVar, eC, eL, eIf, eAnd, eOr, eNot, eTup, eLst, eBits, aCons, aNil, Res.bind, asgR, asgL, Pat.asg, List.map_cons, List.map_nil, List.set, Option.bind, Option.bind_some, List.getElem?_cons_succ, List.getElem?_cons_zero, List.length_cons, List.length_nil, List.replicate_succ, List.replicate_zero, List.cons_append, List.nil_append, Nat.reduceAdd, Nat.reduceSub, Nat.reduceLeDiff, Nat.zero_add, decide_true, decide_false, if_true, if_false, Bool.false_eq_true, Bool.not_true, Bool.not_false, eq_ii, ne_ii, lt_ii, gt_ii, le_ii, ge_ii, add_ii, sub_ii, e1', e2'])) ?_
  refine st (seq_nx (ρ1 := [some (.own n), none, none, some bad, some odd, some low, some far, some (T3 3 2 1), none, none, none]) (M1 := M4) (by simp only [runB, sSeq, sIf, sNil, sPass, sCont, sPar, sAsg, sRet, sExpr, liftR, tAndM, tOrM, tNotM, tB, tTr, truD, e2, e1, eChain, eVar, eC, eL, eIf, eAnd, eOr, eNot, eTup, eLst, eBits, aCons, aNil, Res.bind, asgR, asgL, Pat.asg, List.map_cons, List.map_nil, List.set, Option.bind, Option.bind_some, List.getElem?_cons_succ, List.getElem?_cons_zero, List.length_cons, List.length_nil, List.replicate_succ, List.replicate_zero, List.cons_append, List.nil_append, Nat.reduceAdd, Nat.reduceSub, Nat.reduceLeDiff, Nat.zero_add, decide_true, decide_false, if_true, if_false, Bool.false_eq_true, Bool.not_true, Bool.not_false, eq_ii, ne_ii, lt_ii, gt_ii, le_ii, ge_ii, add_ii, sub_ii, e3', e4', negD])) ?_
  refine st (seq_nx (ρ1 := [some (.own n), none, none, some bad, some odd, some low, some far, some (T3 3 2 1), some num, some den, none]) (M1 := M6) (by simp only [runB, sSeq, sIf, sNil, sPass, sCont, sPar, sAsg, sRet, sExpr, liftR, tAndM, tOrM, tNotM, tB, tTr, truD, e2, e1, eChain, eVar, eC, eL, eIf, eAnd, eOr, eNot, eTup, eLst, eBits, aCons, aNil, Res.bind, asgR, asgL, Pat.asg, List.map_cons, List.map_nil, List.set, Option.bind, Option.bind_some, List.getElem?_cons_succ, List.getElem?_cons_zero, List.length_cons, List.length_nil, List.replicate_succ, List.replicate_zero, List.cons_append, List.nil_append, Nat.reduceAdd, Nat.reduceSub, Nat.reduceLeDiff, Nat.zero_add, decide_true, decide_false, if_true, if_false, Bool.false_eq_true, Bool.not_true, Bool.not_false, eq_ii, ne_ii, lt_ii, gt_ii, le_ii, ge_ii, add_ii, sub_ii, e5', e6', negD])) ?_
  have c1 : ∀ (o : Option D) M, eLam g_law_refused (eL m_times (aCons (eVar 3) (aCons (eVar 4) aNil))) [some (.own n), o, none, some bad, some odd, some low, some far, some (T3 3 2 1), some num, some den, none] M = .ok (bv bad) M := fun o M => lam_v (by
    have r := times_bad (y := odd) M B1
    simp only [runB, sSeq, sIf, sNil, sPass, sCont, sPar, sAsg, sRet, sExpr, liftR, tAndM, tOrM, tNotM, tB, tTr, truD, e2, e1, eChain, eVar, eC, eL, eIf, eAnd, eOr, eNot, eTup, eLst, eBits, aCons, aNil, Res.bind, asgR, asgL, Pat.asg, List.map_cons, List.map_nil, List.set, Option.bind, Option.bind_some, List.getElem?_cons_succ, List.getElem?_cons_zero, List.length_cons, List.length_nil, List.replicate_succ, List.replicate_zero, List.cons_append, List.nil_append, Nat.reduceAdd, Nat.reduceSub, Nat.reduceLeDiff, Nat.zero_add, decide_true, decide_false, if_true, if_false, Bool.false_eq_true, Bool.not_true, Bool.not_false, eq_ii, ne_ii, lt_ii, gt_ii, le_ii, ge_ii, add_ii, sub_ii, r])
  refine st (seq_nx (ρ1 := ρ) (M1 := M6 ++ [some (.lst [bv bad])]) (asg_of (own_one (c1 none M6)) rfl)) ?_
  have k0 : (M6 ++ [some (MO.lst [bv bad])])[h]? = some (some (.lst [bv bad])) := at_last _ _
  generalize M6 ++ [some (MO.lst [bv bad])] = N0 at *
  let P : SR → Prop := fun r => ∃ M', r = .rt (.bl true) M'
  show P _
  refine app_go (t := bv odd) hi k0 (by simp) (lam_v (by
    have r := times_low_bad N0 Lw1 B2
    simp only [runB, sSeq, sIf, sNil, sPass, sCont, sPar, sAsg, sRet, sExpr, liftR, tAndM, tOrM, tNotM, tB, tTr, truD, e2, e1, eChain, eVar, eC, eL, eIf, eAnd, eOr, eNot, eTup, eLst, eBits, aCons, aNil, Res.bind, asgR, asgL, Pat.asg, List.map_cons, List.map_nil, List.set, Option.bind, Option.bind_some, List.getElem?_cons_succ, List.getElem?_cons_zero, List.length_cons, List.length_nil, List.replicate_succ, List.replicate_zero, List.cons_append, List.nil_append, Nat.reduceAdd, Nat.reduceSub, Nat.reduceLeDiff, Nat.zero_add, decide_true, decide_false, if_true, if_false, Bool.false_eq_true, Bool.not_true, Bool.not_false, eq_ii, ne_ii, lt_ii, gt_ii, le_ii, ge_ii, add_ii, sub_ii, ρ, eK, permD, List.filterMap_cons, List.filterMap_nil, eq_self, and_self, r])) fun N1 k1 _ => ?_
  refine app_go (t := bv low) hi k1 (by simp) (lam_v (by
    have r := times_low_far N1 Lw1 Fa1
    simp only [runB, sSeq, sIf, sNil, sPass, sCont, sPar, sAsg, sRet, sExpr, liftR, tAndM, tOrM, tNotM, tB, tTr, truD, e2, e1, eChain, eVar, eC, eL, eIf, eAnd, eOr, eNot, eTup, eLst, eBits, aCons, aNil, Res.bind, asgR, asgL, Pat.asg, List.map_cons, List.map_nil, List.set, Option.bind, Option.bind_some, List.getElem?_cons_succ, List.getElem?_cons_zero, List.length_cons, List.length_nil, List.replicate_succ, List.replicate_zero, List.cons_append, List.nil_append, Nat.reduceAdd, Nat.reduceSub, Nat.reduceLeDiff, Nat.zero_add, decide_true, decide_false, if_true, if_false, Bool.false_eq_true, Bool.not_true, Bool.not_false, eq_ii, ne_ii, lt_ii, gt_ii, le_ii, ge_ii, add_ii, sub_ii, ρ, r])) fun N2 k2 _ => ?_
  refine app_go (t := bv low) hi k2 (by simp) (lam_v (by
    have r := times_far_low N2 Lw1 Fa1
    simp only [runB, sSeq, sIf, sNil, sPass, sCont, sPar, sAsg, sRet, sExpr, liftR, tAndM, tOrM, tNotM, tB, tTr, truD, e2, e1, eChain, eVar, eC, eL, eIf, eAnd, eOr, eNot, eTup, eLst, eBits, aCons, aNil, Res.bind, asgR, asgL, Pat.asg, List.map_cons, List.map_nil, List.set, Option.bind, Option.bind_some, List.getElem?_cons_succ, List.getElem?_cons_zero, List.length_cons, List.length_nil, List.replicate_succ, List.replicate_zero, List.cons_append, List.nil_append, Nat.reduceAdd, Nat.reduceSub, Nat.reduceLeDiff, Nat.zero_add, decide_true, decide_false, if_true, if_false, Bool.false_eq_true, Bool.not_true, Bool.not_false, eq_ii, ne_ii, lt_ii, gt_ii, le_ii, ge_ii, add_ii, sub_ii, ρ, r])) fun N3 k3 _ => ?_
  refine app_go (t := bv bad) hi k3 (by simp) (lam_v (by
    have r := plus_bad (y := odd) N3 B1
    simp only [runB, sSeq, sIf, sNil, sPass, sCont, sPar, sAsg, sRet, sExpr, liftR, tAndM, tOrM, tNotM, tB, tTr, truD, e2, e1, eChain, eVar, eC, eL, eIf, eAnd, eOr, eNot, eTup, eLst, eBits, aCons, aNil, Res.bind, asgR, asgL, Pat.asg, List.map_cons, List.map_nil, List.set, Option.bind, Option.bind_some, List.getElem?_cons_succ, List.getElem?_cons_zero, List.length_cons, List.length_nil, List.replicate_succ, List.replicate_zero, List.cons_append, List.nil_append, Nat.reduceAdd, Nat.reduceSub, Nat.reduceLeDiff, Nat.zero_add, decide_true, decide_false, if_true, if_false, Bool.false_eq_true, Bool.not_true, Bool.not_false, eq_ii, ne_ii, lt_ii, gt_ii, le_ii, ge_ii, add_ii, sub_ii, ρ, r])) fun N4 k4 _ => ?_
  refine app_go (t := bv far) hi k4 (by simp) (lam_v (by
    have r := plus_far (y := odd) N4 Fa1
    simp only [runB, sSeq, sIf, sNil, sPass, sCont, sPar, sAsg, sRet, sExpr, liftR, tAndM, tOrM, tNotM, tB, tTr, truD, e2, e1, eChain, eVar, eC, eL, eIf, eAnd, eOr, eNot, eTup, eLst, eBits, aCons, aNil, Res.bind, asgR, asgL, Pat.asg, List.map_cons, List.map_nil, List.set, Option.bind, Option.bind_some, List.getElem?_cons_succ, List.getElem?_cons_zero, List.length_cons, List.length_nil, List.replicate_succ, List.replicate_zero, List.cons_append, List.nil_append, Nat.reduceAdd, Nat.reduceSub, Nat.reduceLeDiff, Nat.zero_add, decide_true, decide_false, if_true, if_false, Bool.false_eq_true, Bool.not_true, Bool.not_false, eq_ii, ne_ii, lt_ii, gt_ii, le_ii, ge_ii, add_ii, sub_ii, ρ, r])) fun N5 k5 _ => ?_
  refine app_go (t := bv far) hi k5 (by simp) (lam_v (by
    have r := plus_far2 N5 Fa1
    simp only [runB, sSeq, sIf, sNil, sPass, sCont, sPar, sAsg, sRet, sExpr, liftR, tAndM, tOrM, tNotM, tB, tTr, truD, e2, e1, eChain, eVar, eC, eL, eIf, eAnd, eOr, eNot, eTup, eLst, eBits, aCons, aNil, Res.bind, asgR, asgL, Pat.asg, List.map_cons, List.map_nil, List.set, Option.bind, Option.bind_some, List.getElem?_cons_succ, List.getElem?_cons_zero, List.length_cons, List.length_nil, List.replicate_succ, List.replicate_zero, List.cons_append, List.nil_append, Nat.reduceAdd, Nat.reduceSub, Nat.reduceLeDiff, Nat.zero_add, decide_true, decide_false, if_true, if_false, Bool.false_eq_true, Bool.not_true, Bool.not_false, eq_ii, ne_ii, lt_ii, gt_ii, le_ii, ge_ii, add_ii, sub_ii, ρ, eK, permD, List.filterMap_cons, List.filterMap_nil, eq_self, and_self, r])) fun N6 k6 _ => ?_
  refine app_go (t := bv bad) hi k6 (by simp) (lam_v (by
    have r := power_bad (y := num) (z := den) N6 B1
    simp only [runB, sSeq, sIf, sNil, sPass, sCont, sPar, sAsg, sRet, sExpr, liftR, tAndM, tOrM, tNotM, tB, tTr, truD, e2, e1, eChain, eVar, eC, eL, eIf, eAnd, eOr, eNot, eTup, eLst, eBits, aCons, aNil, Res.bind, asgR, asgL, Pat.asg, List.map_cons, List.map_nil, List.set, Option.bind, Option.bind_some, List.getElem?_cons_succ, List.getElem?_cons_zero, List.length_cons, List.length_nil, List.replicate_succ, List.replicate_zero, List.cons_append, List.nil_append, Nat.reduceAdd, Nat.reduceSub, Nat.reduceLeDiff, Nat.zero_add, decide_true, decide_false, if_true, if_false, Bool.false_eq_true, Bool.not_true, Bool.not_false, eq_ii, ne_ii, lt_ii, gt_ii, le_ii, ge_ii, add_ii, sub_ii, ρ, r])) fun N7 k7 _ => ?_
  refine app_go (t := bv low) hi k7 (by simp) (lam_v (by
    have r := power_low (y := num) (z := den) N7 Lw1
    simp only [runB, sSeq, sIf, sNil, sPass, sCont, sPar, sAsg, sRet, sExpr, liftR, tAndM, tOrM, tNotM, tB, tTr, truD, e2, e1, eChain, eVar, eC, eL, eIf, eAnd, eOr, eNot, eTup, eLst, eBits, aCons, aNil, Res.bind, asgR, asgL, Pat.asg, List.map_cons, List.map_nil, List.set, Option.bind, Option.bind_some, List.getElem?_cons_succ, List.getElem?_cons_zero, List.length_cons, List.length_nil, List.replicate_succ, List.replicate_zero, List.cons_append, List.nil_append, Nat.reduceAdd, Nat.reduceSub, Nat.reduceLeDiff, Nat.zero_add, decide_true, decide_false, if_true, if_false, Bool.false_eq_true, Bool.not_true, Bool.not_false, eq_ii, ne_ii, lt_ii, gt_ii, le_ii, ge_ii, add_ii, sub_ii, ρ, r])) fun N8 k8 _ => ?_
  refine app_go (t := bm num) hi k8 (by simp) (lam_m (by
    have r := power_num (z := den) N8 (Nn.1 N8)
    simp only [runB, sSeq, sIf, sNil, sPass, sCont, sPar, sAsg, sRet, sExpr, liftR, tAndM, tOrM, tNotM, tB, tTr, truD, e2, e1, eChain, eVar, eC, eL, eIf, eAnd, eOr, eNot, eTup, eLst, eBits, aCons, aNil, Res.bind, asgR, asgL, Pat.asg, List.map_cons, List.map_nil, List.set, Option.bind, Option.bind_some, List.getElem?_cons_succ, List.getElem?_cons_zero, List.length_cons, List.length_nil, List.replicate_succ, List.replicate_zero, List.cons_append, List.nil_append, Nat.reduceAdd, Nat.reduceSub, Nat.reduceLeDiff, Nat.zero_add, decide_true, decide_false, if_true, if_false, Bool.false_eq_true, Bool.not_true, Bool.not_false, eq_ii, ne_ii, lt_ii, gt_ii, le_ii, ge_ii, add_ii, sub_ii, ρ, r])) fun N9 k9 _ => ?_
  refine app_go (t := bm den) hi k9 (by simp) (lam_m (by
    have r := power_den N9 (Dd.1 N9)
    simp only [runB, sSeq, sIf, sNil, sPass, sCont, sPar, sAsg, sRet, sExpr, liftR, tAndM, tOrM, tNotM, tB, tTr, truD, e2, e1, eChain, eVar, eC, eL, eIf, eAnd, eOr, eNot, eTup, eLst, eBits, aCons, aNil, Res.bind, asgR, asgL, Pat.asg, List.map_cons, List.map_nil, List.set, Option.bind, Option.bind_some, List.getElem?_cons_succ, List.getElem?_cons_zero, List.length_cons, List.length_nil, List.replicate_succ, List.replicate_zero, List.cons_append, List.nil_append, Nat.reduceAdd, Nat.reduceSub, Nat.reduceLeDiff, Nat.zero_add, decide_true, decide_false, if_true, if_false, Bool.false_eq_true, Bool.not_true, Bool.not_false, eq_ii, ne_ii, lt_ii, gt_ii, le_ii, ge_ii, add_ii, sub_ii, ρ, eK, permD, List.filterMap_cons, List.filterMap_nil, eq_self, and_self, r])) fun N k _ => ?_
  have sm : m_law_same [.own h, .lst [bv bad, bv odd, bv low, bv low, bv bad, bv far, bv far, bv bad, bv low, bm num, bm den]] N = .ok (.bl true) N := by
    have V := fun {x : D} (h : Sd 2000 3 x) => sd_bv "value" (by decide) h
    have W := fun {x : D} (h : Sd 2000 3 x) => sd_bv "many" (by decide) h
    exact same_own k ((((((((((((SdL.nil 4).cons (W Dd.2)).cons (W Nn.2)).cons (V sl)).cons (V B1.sd)).cons (V sf)).cons (V sf)).cons (V B1.sd)).cons (V sl)).cons (V sl)).cons (V B2.sd)).cons (V B1.sd)) (by omega) (by omega)
  refine st (seq_nx (ρ1 := ρ.set 2 (some (.lst [bv bad, bv odd, bv low, bv low, bv bad, bv far, bv far, bv bad, bv low, bm num, bm den]))) (M1 := N) rfl) ?_
  refine ⟨N, ?_⟩
  show sRet _ [some (.own n), some (.own h), some (.lst [bv bad, bv odd, bv low, bv low, bv bad, bv far, bv far, bv bad, bv low, bm num, bm den]), some bad, some odd, some low, some far, some (T3 3 2 1), some num, some den, none] N = _
  simp only [runB, sSeq, sIf, sNil, sPass, sCont, sPar, sAsg, sRet, sExpr, liftR, tAndM, tOrM, tNotM, tB, tTr, truD, e2, e1, eChain, eVar, eC, eL, eIf, eAnd, eOr, eNot, eTup, eLst, eBits, aCons, aNil, Res.bind, asgR, asgL, Pat.asg, List.map_cons, List.map_nil, List.set, Option.bind, Option.bind_some, List.getElem?_cons_succ, List.getElem?_cons_zero, List.length_cons, List.length_nil, List.replicate_succ, List.replicate_zero, List.cons_append, List.nil_append, Nat.reduceAdd, Nat.reduceSub, Nat.reduceLeDiff, Nat.zero_add, decide_true, decide_false, if_true, if_false, Bool.false_eq_true, Bool.not_true, Bool.not_false, eq_ii, ne_ii, lt_ii, gt_ii, le_ii, ge_ii, add_ii, sub_ii, sm]
theorem ev_all_right (ns : List Int) (hl : ns.length ≤ 63) : ∃ M', m_law_is_all_right [.fz (ns.map D.int)] [] = .ok (.bl true) M' := by
  obtain ⟨M1, e1', D1, l1⟩ := run_deck ns 21502002 [] hl (by decide)
  rw [← deck_eq] at e1'
  have e1'' : m_law_deck [.fz (ns.map D.int), .int 21502002] [] = .ok (.own 1) M1 := e1'
  have D1' : Dk M1 0 1 0 := D1
  have loop := range_rule (p := .nm 2) (b := (sIf (tOrM (tNotM (tTr (eL m_law_are_products_right (aCons (eVar 1) aNil)))) (tNotM (tTr (eL m_law_are_sums_right (aCons (eVar 1) aNil))))) (sRet (eC (.bl false))) sNil)) 0 3 (fun i ρ M' => Dk M' 0 1 (i * 100) ∧ ∃ p2, ρ = [some (.fz (ns.map D.int)), some (.own 1), p2])
    (fun r => ∃ M' p2, r = .nx [some (.fz (ns.map D.int)), some (.own 1), p2] M' ∧ Dk M' 0 1 300) (by
    rintro i ρ M' hi ⟨D2, p2, rfl⟩
    obtain ⟨M2, q1, D3⟩ := ev_are_products_right D2 (by omega)
    obtain ⟨M3, q2, D4⟩ := ev_are_sums_right D3 (by omega)
    refine ⟨[some (.fz (ns.map D.int)), some (.own 1), some (.int (0 + (i : Int)))], rfl, .inl ⟨_, M3, .inl ?_, D4.up (by omega), some (.int (0 + (i : Int))), rfl⟩⟩
    simp only [runB, sSeq, sIf, sNil, sPass, sCont, sPar, sAsg, sRet, sExpr, liftR, tAndM, tOrM, tNotM, tB, tTr, truD, e2, e1, eChain, eVar, eC, eL, eIf, eAnd, eOr, eNot, eTup, eLst, eBits, aCons, aNil, Res.bind, asgR, asgL, Pat.asg, List.map_cons, List.map_nil, List.set, Option.bind, Option.bind_some, List.getElem?_cons_succ, List.getElem?_cons_zero, List.length_cons, List.length_nil, List.replicate_succ, List.replicate_zero, List.cons_append, List.nil_append, Nat.reduceAdd, Nat.reduceSub, Nat.reduceLeDiff, Nat.zero_add, decide_true, decide_false, if_true, if_false, Bool.false_eq_true, Bool.not_true, Bool.not_false, eq_ii, ne_ii, lt_ii, gt_ii, le_ii, ge_ii, add_ii, sub_ii, q1, q2]) (by
    rintro ρ M' ⟨D2, p2, rfl⟩
    exact ⟨M', p2, rfl, D2⟩) [some (.fz (ns.map D.int)), some (.own 1), none] M1 ⟨D1', none, rfl⟩
  obtain ⟨M2, p2, el, D2⟩ := loop
  obtain ⟨M4, er⟩ := ev_are_refused D2 (by omega)
  refine ⟨M4, ?_⟩
  unfold m_law_is_all_right b_law_is_all_right
  refine run_rt ?_
  refine (seq_nx (by simp only [runB, sSeq, sIf, sNil, sPass, sCont, sPar, sAsg, sRet, sExpr, liftR, tAndM, tOrM, tNotM, tB, tTr, truD, e2, e1, eChain, eVar, eC, eL, eIf, eAnd, eOr, eNot, eTup, eLst, eBits, aCons, aNil, Res.bind, asgR, asgL, Pat.asg, List.map_cons, List.map_nil, List.set, Option.bind, Option.bind_some, List.getElem?_cons_succ, List.getElem?_cons_zero, List.length_cons, List.length_nil, List.replicate_succ, List.replicate_zero, List.cons_append, List.nil_append, Nat.reduceAdd, Nat.reduceSub, Nat.reduceLeDiff, Nat.zero_add, decide_true, decide_false, if_true, if_false, Bool.false_eq_true, Bool.not_true, Bool.not_false, eq_ii, ne_ii, lt_ii, gt_ii, le_ii, ge_ii, add_ii, sub_ii, e1'']; rfl)).trans ?_
  refine (seq_nx ((for_of (M1 := M1) (l := rangeD 0 3) rfl).trans el)).trans ?_
  simp only [runB, sSeq, sIf, sNil, sPass, sCont, sPar, sAsg, sRet, sExpr, liftR, tAndM, tOrM, tNotM, tB, tTr, truD, e2, e1, eChain, eVar, eC, eL, eIf, eAnd, eOr, eNot, eTup, eLst, eBits, aCons, aNil, Res.bind, asgR, asgL, Pat.asg, List.map_cons, List.map_nil, List.set, Option.bind, Option.bind_some, List.getElem?_cons_succ, List.getElem?_cons_zero, List.length_cons, List.length_nil, List.replicate_succ, List.replicate_zero, List.cons_append, List.nil_append, Nat.reduceAdd, Nat.reduceSub, Nat.reduceLeDiff, Nat.zero_add, decide_true, decide_false, if_true, if_false, Bool.false_eq_true, Bool.not_true, Bool.not_false, eq_ii, ne_ii, lt_ii, gt_ii, le_ii, ge_ii, add_ii, sub_ii, er]
theorem plain_law (ns : List Int) (hl : ns.length ≤ 63) (hb : ∀ z ∈ ns, Builtin.Int.intBits z ≤ 1048576) : ∃ M', m_law [.fz (ns.map D.int)] [] = .ok (.bl true) M' := by
  obtain ⟨M', e⟩ := ev_all_right ns hl
  refine ⟨M', ?_⟩
  unfold m_law b_law
  simp only [runB, sSeq, sIf, sNil, sPass, sCont, sPar, sAsg, sRet, sExpr, liftR, tAndM, tOrM, tNotM, tB, tTr, truD, e2, e1, eChain, eVar, eC, eL, eIf, eAnd, eOr, eNot, eTup, eLst, eBits, aCons, aNil, Res.bind, asgR, asgL, Pat.asg, List.map_cons, List.map_nil, List.set, Option.bind, Option.bind_some, List.getElem?_cons_succ, List.getElem?_cons_zero, List.length_cons, List.length_nil, List.replicate_succ, List.replicate_zero, List.cons_append, List.nil_append, Nat.reduceAdd, Nat.reduceSub, Nat.reduceLeDiff, Nat.zero_add, decide_true, decide_false, if_true, if_false, Bool.false_eq_true, Bool.not_true, Bool.not_false, eq_ii, ne_ii, lt_ii, gt_ii, le_ii, ge_ii, add_ii, sub_ii, noExc, e]
end K02
namespace K02
open PySem PySem.Spec PyProof.Rows L2 DL
open H02 (top init fa fn ex tb)
structure Fx (K : PySem.W.Frag) (mg : Str → Option Value) : Prop where
  ex : ∃ h, Says fa fn ex tb K h ∧ h.Ns mainGlobals mg
variable [TabsOf]
namespace Fx
variable {K : PySem.W.Frag} {mg : Str → Option Value}
theorem no_abs (T : Fx K mg) : mg "abs" = none := by
  obtain ⟨h, c, g⟩ := T.ex
  exact He.free_ok c.kin g (c.d.fact 45)
theorem no_all (T : Fx K mg) : mg "all" = none := by
  obtain ⟨h, c, g⟩ := T.ex
  exact He.free_ok c.kin g (c.d.fact 46)
theorem no_bool (T : Fx K mg) : mg "bool" = none := by
  obtain ⟨h, c, g⟩ := T.ex
  exact He.free_ok c.kin g (c.d.fact 47)
theorem no_int (T : Fx K mg) : mg "int" = none := by
  obtain ⟨h, c, g⟩ := T.ex
  exact He.free_ok c.kin g (c.d.fact 48)
theorem no_isinstance (T : Fx K mg) : mg "isinstance" = none := by
  obtain ⟨h, c, g⟩ := T.ex
  exact He.free_ok c.kin g (c.d.fact 49)
theorem no_len (T : Fx K mg) : mg "len" = none := by
  obtain ⟨h, c, g⟩ := T.ex
  exact He.free_ok c.kin g (c.d.fact 50)
theorem no_list (T : Fx K mg) : mg "list" = none := by
  obtain ⟨h, c, g⟩ := T.ex
  exact He.free_ok c.kin g (c.d.fact 51)
theorem no_max (T : Fx K mg) : mg "max" = none := by
  obtain ⟨h, c, g⟩ := T.ex
  exact He.free_ok c.kin g (c.d.fact 52)
theorem no_min (T : Fx K mg) : mg "min" = none := by
  obtain ⟨h, c, g⟩ := T.ex
  exact He.free_ok c.kin g (c.d.fact 53)
theorem no_range (T : Fx K mg) : mg "range" = none := by
  obtain ⟨h, c, g⟩ := T.ex
  exact He.free_ok c.kin g (c.d.fact 54)
theorem no_repr (T : Fx K mg) : mg "repr" = none := by
  obtain ⟨h, c, g⟩ := T.ex
  exact He.free_ok c.kin g (c.d.fact 55)
theorem no_tuple (T : Fx K mg) : mg "tuple" = none := by
  obtain ⟨h, c, g⟩ := T.ex
  exact He.free_ok c.kin g (c.d.fact 56)
theorem int_MOST_BITS (T : Fx K mg) : ∃ t, mg "MOST_BITS" = some (.int 20000 t) := by
  obtain ⟨h, c, g⟩ := T.ex
  exact He.int_ok c.kin g (c.d.fact 57)
theorem int_VALUE_PARTS (T : Fx K mg) : ∃ t, mg "VALUE_PARTS" = some (.int 3 t) := by
  obtain ⟨h, c, g⟩ := T.ex
  exact He.int_ok c.kin g (c.d.fact 58)
theorem int_MOST_POWER (T : Fx K mg) : ∃ t, mg "MOST_POWER" = some (.int 64 t) := by
  obtain ⟨h, c, g⟩ := T.ex
  exact He.int_ok c.kin g (c.d.fact 59)
theorem gl_QuantityError (T : Fx K mg) : mg "QuantityError" = some (.ref (He.ga K "QuantityError")) := by
  obtain ⟨h, c, g⟩ := T.ex
  exact He.glo_ok c.kin g (c.d.fact 42)
theorem gl_BadValue (T : Fx K mg) : mg "BadValue" = some (.ref (He.ga K "BadValue")) := by
  obtain ⟨h, c, g⟩ := T.ex
  exact He.glo_ok c.kin g (c.d.fact 43)
theorem gl_BadMany (T : Fx K mg) : mg "BadMany" = some (.ref (He.ga K "BadMany")) := by
  obtain ⟨h, c, g⟩ := T.ex
  exact He.glo_ok c.kin g (c.d.fact 44)
theorem fn_gcd (T : Fx K mg) : mg "gcd" = some (.builtin "math.gcd") := by
  obtain ⟨h, c, g⟩ := T.ex
  exact gloB_ok c.kin g (c.e _ (List.mem_of_getElem? (i := 2) rfl))
theorem fn_lcm (T : Fx K mg) : mg "lcm" = some (.builtin "math.lcm") := by
  obtain ⟨h, c, g⟩ := T.ex
  exact gloB_ok c.kin g (c.e _ (List.mem_of_getElem? (i := 3) rfl))
theorem ex_0 (T : Fx K mg) : (DL.xbB "BadValue" "__init__") K = true := by
  obtain ⟨h, c, g⟩ := T.ex
  exact c.e _ (List.mem_of_getElem? (i := 0) rfl)
theorem ex_1 (T : Fx K mg) : (DL.xbB "BadMany" "__init__") K = true := by
  obtain ⟨h, c, g⟩ := T.ex
  exact c.e _ (List.mem_of_getElem? (i := 1) rfl)
theorem ex_4 (T : Fx K mg) : (DL.exmB "BadValue" "QuantityError" true) K = true := by
  obtain ⟨h, c, g⟩ := T.ex
  exact c.e _ (List.mem_of_getElem? (i := 4) rfl)
theorem ex_5 (T : Fx K mg) : (DL.exmB "BadMany" "QuantityError" true) K = true := by
  obtain ⟨h, c, g⟩ := T.ex
  exact c.e _ (List.mem_of_getElem? (i := 5) rfl)
theorem ex_6 (T : Fx K mg) : (DL.kitEB "BadValue") K = true := by
  obtain ⟨h, c, g⟩ := T.ex
  exact c.e _ (List.mem_of_getElem? (i := 6) rfl)
theorem ex_7 (T : Fx K mg) : (DL.kitB "BadValue" "BadMany" false) K = true := by
  obtain ⟨h, c, g⟩ := T.ex
  exact c.e _ (List.mem_of_getElem? (i := 7) rfl)
theorem ex_8 (T : Fx K mg) : (DL.kitB "BadValue" "BadValue" true) K = true := by
  obtain ⟨h, c, g⟩ := T.ex
  exact c.e _ (List.mem_of_getElem? (i := 8) rfl)
theorem ex_9 (T : Fx K mg) : (DL.kitEB "BadMany") K = true := by
  obtain ⟨h, c, g⟩ := T.ex
  exact c.e _ (List.mem_of_getElem? (i := 9) rfl)
theorem ex_10 (T : Fx K mg) : (DL.kitB "BadMany" "BadMany" true) K = true := by
  obtain ⟨h, c, g⟩ := T.ex
  exact c.e _ (List.mem_of_getElem? (i := 10) rfl)
theorem ex_11 (T : Fx K mg) : (DL.kitB "BadMany" "BadValue" false) K = true := by
  obtain ⟨h, c, g⟩ := T.ex
  exact c.e _ (List.mem_of_getElem? (i := 11) rfl)
theorem f_is_whole (T : Fx K mg) : ∃ fd, FunD K "is_whole" "is_whole" (defArgs (top 7)) (defBody (top 7)) (defScope (top 7)) [] [] (He.ga K "is_whole") fd ∧ mg "is_whole" = some (.ref (He.ga K "is_whole")) := by
  obtain ⟨h, c, g⟩ := T.ex
  obtain ⟨fd, F⟩ := c.d.def_ 0 (d := H02.d_is_whole) rfl
  exact ⟨fd, F, He.glo_ok c.kin g (c.d.fact 0)⟩
theorem f_is_whole_between (T : Fx K mg) : ∃ fd, FunD K "is_whole_between" "is_whole_between" (defArgs (top 8)) (defBody (top 8)) (defScope (top 8)) [] [] (He.ga K "is_whole_between") fd ∧ mg "is_whole_between" = some (.ref (He.ga K "is_whole_between")) := by
  obtain ⟨h, c, g⟩ := T.ex
  obtain ⟨fd, F⟩ := c.d.def_ 1 (d := H02.d_is_whole_between) rfl
  exact ⟨fd, F, He.glo_ok c.kin g (c.d.fact 1)⟩
theorem f_is_tuple_of (T : Fx K mg) : ∃ fd, FunD K "is_tuple_of" "is_tuple_of" (defArgs (top 9)) (defBody (top 9)) (defScope (top 9)) [] [] (He.ga K "is_tuple_of") fd ∧ mg "is_tuple_of" = some (.ref (He.ga K "is_tuple_of")) := by
  obtain ⟨h, c, g⟩ := T.ex
  obtain ⟨fd, F⟩ := c.d.def_ 2 (d := H02.d_is_tuple_of) rfl
  exact ⟨fd, F, He.glo_ok c.kin g (c.d.fact 2)⟩
theorem f_whole_power (T : Fx K mg) : ∃ fd, FunD K "whole_power" "whole_power" (defArgs (top 11)) (defBody (top 11)) (defScope (top 11)) [] [] (He.ga K "whole_power") fd ∧ mg "whole_power" = some (.ref (He.ga K "whole_power")) := by
  obtain ⟨h, c, g⟩ := T.ex
  obtain ⟨fd, F⟩ := c.d.def_ 3 (d := H02.d_whole_power) rfl
  exact ⟨fd, F, He.glo_ok c.kin g (c.d.fact 3)⟩
theorem f_made (T : Fx K mg) : ∃ fd, FunD K "made" "made" (defArgs (top 12)) (defBody (top 12)) (defScope (top 12)) [] [] (He.ga K "made") fd ∧ mg "made" = some (.ref (He.ga K "made")) := by
  obtain ⟨h, c, g⟩ := T.ex
  obtain ⟨fd, F⟩ := c.d.def_ 4 (d := H02.d_made) rfl
  exact ⟨fd, F, He.glo_ok c.kin g (c.d.fact 4)⟩
theorem f_whole_root (T : Fx K mg) : ∃ fd, FunD K "whole_root" "whole_root" (defArgs (top 16)) (defBody (top 16)) (defScope (top 16)) [] [] (He.ga K "whole_root") fd ∧ mg "whole_root" = some (.ref (He.ga K "whole_root")) := by
  obtain ⟨h, c, g⟩ := T.ex
  obtain ⟨fd, F⟩ := c.d.def_ 5 (d := H02.d_whole_root) rfl
  exact ⟨fd, F, He.glo_ok c.kin g (c.d.fact 5)⟩
theorem f_is_power_to (T : Fx K mg) : ∃ fd, FunD K "is_power_to" "is_power_to" (defArgs (top 17)) (defBody (top 17)) (defScope (top 17)) [] [] (He.ga K "is_power_to") fd ∧ mg "is_power_to" = some (.ref (He.ga K "is_power_to")) := by
  obtain ⟨h, c, g⟩ := T.ex
  obtain ⟨fd, F⟩ := c.d.def_ 6 (d := H02.d_is_power_to) rfl
  exact ⟨fd, F, He.glo_ok c.kin g (c.d.fact 6)⟩
theorem f_shared_degree (T : Fx K mg) : ∃ fd, FunD K "shared_degree" "shared_degree" (defArgs (top 18)) (defBody (top 18)) (defScope (top 18)) [] [] (He.ga K "shared_degree") fd ∧ mg "shared_degree" = some (.ref (He.ga K "shared_degree")) := by
  obtain ⟨h, c, g⟩ := T.ex
  obtain ⟨fd, F⟩ := c.d.def_ 7 (d := H02.d_shared_degree) rfl
  exact ⟨fd, F, He.glo_ok c.kin g (c.d.fact 7)⟩
theorem f_lowest (T : Fx K mg) : ∃ fd, FunD K "lowest" "lowest" (defArgs (top 19)) (defBody (top 19)) (defScope (top 19)) [] [] (He.ga K "lowest") fd ∧ mg "lowest" = some (.ref (He.ga K "lowest")) := by
  obtain ⟨h, c, g⟩ := T.ex
  obtain ⟨fd, F⟩ := c.d.def_ 8 (d := H02.d_lowest) rfl
  exact ⟨fd, F, He.glo_ok c.kin g (c.d.fact 8)⟩
theorem f_is_value_form (T : Fx K mg) : ∃ fd, FunD K "is_value_form" "is_value_form" (defArgs (top 20)) (defBody (top 20)) (defScope (top 20)) [] [] (He.ga K "is_value_form") fd ∧ mg "is_value_form" = some (.ref (He.ga K "is_value_form")) := by
  obtain ⟨h, c, g⟩ := T.ex
  obtain ⟨fd, F⟩ := c.d.def_ 9 (d := H02.d_is_value_form) rfl
  exact ⟨fd, F, He.glo_ok c.kin g (c.d.fact 9)⟩
theorem f_is_positive_value (T : Fx K mg) : ∃ fd, FunD K "is_positive_value" "is_positive_value" (defArgs (top 21)) (defBody (top 21)) (defScope (top 21)) [] [] (He.ga K "is_positive_value") fd ∧ mg "is_positive_value" = some (.ref (He.ga K "is_positive_value")) := by
  obtain ⟨h, c, g⟩ := T.ex
  obtain ⟨fd, F⟩ := c.d.def_ 10 (d := H02.d_is_positive_value) rfl
  exact ⟨fd, F, He.glo_ok c.kin g (c.d.fact 10)⟩
theorem f_is_fraction_value (T : Fx K mg) : ∃ fd, FunD K "is_fraction_value" "is_fraction_value" (defArgs (top 22)) (defBody (top 22)) (defScope (top 22)) [] [] (He.ga K "is_fraction_value") fd ∧ mg "is_fraction_value" = some (.ref (He.ga K "is_fraction_value")) := by
  obtain ⟨h, c, g⟩ := T.ex
  obtain ⟨fd, F⟩ := c.d.def_ 11 (d := H02.d_is_fraction_value) rfl
  exact ⟨fd, F, He.glo_ok c.kin g (c.d.fact 11)⟩
theorem f_compared (T : Fx K mg) : ∃ fd, FunD K "compared" "compared" (defArgs (top 23)) (defBody (top 23)) (defScope (top 23)) [] [] (He.ga K "compared") fd ∧ mg "compared" = some (.ref (He.ga K "compared")) := by
  obtain ⟨h, c, g⟩ := T.ex
  obtain ⟨fd, F⟩ := c.d.def_ 12 (d := H02.d_compared) rfl
  exact ⟨fd, F, He.glo_ok c.kin g (c.d.fact 12)⟩
theorem f_multiplied_roots (T : Fx K mg) : ∃ fd, FunD K "multiplied_roots" "multiplied_roots" (defArgs (top 24)) (defBody (top 24)) (defScope (top 24)) [] [] (He.ga K "multiplied_roots") fd ∧ mg "multiplied_roots" = some (.ref (He.ga K "multiplied_roots")) := by
  obtain ⟨h, c, g⟩ := T.ex
  obtain ⟨fd, F⟩ := c.d.def_ 13 (d := H02.d_multiplied_roots) rfl
  exact ⟨fd, F, He.glo_ok c.kin g (c.d.fact 13)⟩
theorem f_powered (T : Fx K mg) : ∃ fd, FunD K "powered" "powered" (defArgs (top 25)) (defBody (top 25)) (defScope (top 25)) [] [] (He.ga K "powered") fd ∧ mg "powered" = some (.ref (He.ga K "powered")) := by
  obtain ⟨h, c, g⟩ := T.ex
  obtain ⟨fd, F⟩ := c.d.def_ 14 (d := H02.d_powered) rfl
  exact ⟨fd, F, He.glo_ok c.kin g (c.d.fact 14)⟩
theorem f_need_value (T : Fx K mg) : ∃ fd, FunD K "need_value" "need_value" (defArgs (top 26)) (defBody (top 26)) (defScope (top 26)) [] [] (He.ga K "need_value") fd ∧ mg "need_value" = some (.ref (He.ga K "need_value")) := by
  obtain ⟨h, c, g⟩ := T.ex
  obtain ⟨fd, F⟩ := c.d.def_ 15 (d := H02.d_need_value) rfl
  exact ⟨fd, F, He.glo_ok c.kin g (c.d.fact 15)⟩
theorem f_compare (T : Fx K mg) : ∃ fd, FunD K "compare" "compare" (defArgs (top 27)) (defBody (top 27)) (defScope (top 27)) [] [] (He.ga K "compare") fd ∧ mg "compare" = some (.ref (He.ga K "compare")) := by
  obtain ⟨h, c, g⟩ := T.ex
  obtain ⟨fd, F⟩ := c.d.def_ 16 (d := H02.d_compare) rfl
  exact ⟨fd, F, He.glo_ok c.kin g (c.d.fact 16)⟩
theorem f_times (T : Fx K mg) : ∃ fd, FunD K "times" "times" (defArgs (top 28)) (defBody (top 28)) (defScope (top 28)) [] [] (He.ga K "times") fd ∧ mg "times" = some (.ref (He.ga K "times")) := by
  obtain ⟨h, c, g⟩ := T.ex
  obtain ⟨fd, F⟩ := c.d.def_ 17 (d := H02.d_times) rfl
  exact ⟨fd, F, He.glo_ok c.kin g (c.d.fact 17)⟩
theorem f_power (T : Fx K mg) : ∃ fd, FunD K "power" "power" (defArgs (top 29)) (defBody (top 29)) (defScope (top 29)) [] [] (He.ga K "power") fd ∧ mg "power" = some (.ref (He.ga K "power")) := by
  obtain ⟨h, c, g⟩ := T.ex
  obtain ⟨fd, F⟩ := c.d.def_ 18 (d := H02.d_power) rfl
  exact ⟨fd, F, He.glo_ok c.kin g (c.d.fact 18)⟩
theorem f_plus (T : Fx K mg) : ∃ fd, FunD K "plus" "plus" (defArgs (top 30)) (defBody (top 30)) (defScope (top 30)) [] [] (He.ga K "plus") fd ∧ mg "plus" = some (.ref (He.ga K "plus")) := by
  obtain ⟨h, c, g⟩ := T.ex
  obtain ⟨fd, F⟩ := c.d.def_ 19 (d := H02.d_plus) rfl
  exact ⟨fd, F, He.glo_ok c.kin g (c.d.fact 19)⟩
theorem f_law_deck (T : Fx K mg) : ∃ fd, FunD K "_law_deck" "_law_deck" (defArgs (top 32)) (defBody (top 32)) (defScope (top 32)) [] [] (He.ga K "_law_deck") fd ∧ mg "_law_deck" = some (.ref (He.ga K "_law_deck")) := by
  obtain ⟨h, c, g⟩ := T.ex
  obtain ⟨fd, F⟩ := c.d.def_ 20 (d := H02.d_law_deck) rfl
  exact ⟨fd, F, He.glo_ok c.kin g (c.d.fact 20)⟩
theorem f_law_draw (T : Fx K mg) : ∃ fd, FunD K "_law_draw" "_law_draw" (defArgs (top 33)) (defBody (top 33)) (defScope (top 33)) [] [] (He.ga K "_law_draw") fd ∧ mg "_law_draw" = some (.ref (He.ga K "_law_draw")) := by
  obtain ⟨h, c, g⟩ := T.ex
  obtain ⟨fd, F⟩ := c.d.def_ 21 (d := H02.d_law_draw) rfl
  exact ⟨fd, F, He.glo_ok c.kin g (c.d.fact 21)⟩
theorem f_law_pick (T : Fx K mg) : ∃ fd, FunD K "_law_pick" "_law_pick" (defArgs (top 34)) (defBody (top 34)) (defScope (top 34)) [] [] (He.ga K "_law_pick") fd ∧ mg "_law_pick" = some (.ref (He.ga K "_law_pick")) := by
  obtain ⟨h, c, g⟩ := T.ex
  obtain ⟨fd, F⟩ := c.d.def_ 22 (d := H02.d_law_pick) rfl
  exact ⟨fd, F, He.glo_ok c.kin g (c.d.fact 22)⟩
theorem f_law_same (T : Fx K mg) : ∃ fd, FunD K "_law_same" "_law_same" (defArgs (top 35)) (defBody (top 35)) (defScope (top 35)) [] [] (He.ga K "_law_same") fd ∧ mg "_law_same" = some (.ref (He.ga K "_law_same")) := by
  obtain ⟨h, c, g⟩ := T.ex
  obtain ⟨fd, F⟩ := c.d.def_ 23 (d := H02.d_law_same) rfl
  exact ⟨fd, F, He.glo_ok c.kin g (c.d.fact 23)⟩
theorem f_law_gcd (T : Fx K mg) : ∃ fd, FunD K "_law_gcd" "_law_gcd" (defArgs (top 37)) (defBody (top 37)) (defScope (top 37)) [] [] (He.ga K "_law_gcd") fd ∧ mg "_law_gcd" = some (.ref (He.ga K "_law_gcd")) := by
  obtain ⟨h, c, g⟩ := T.ex
  obtain ⟨fd, F⟩ := c.d.def_ 24 (d := H02.d_law_gcd) rfl
  exact ⟨fd, F, He.glo_ok c.kin g (c.d.fact 24)⟩
theorem f_law_low (T : Fx K mg) : ∃ fd, FunD K "_law_low" "_law_low" (defArgs (top 38)) (defBody (top 38)) (defScope (top 38)) [] [] (He.ga K "_law_low") fd ∧ mg "_law_low" = some (.ref (He.ga K "_law_low")) := by
  obtain ⟨h, c, g⟩ := T.ex
  obtain ⟨fd, F⟩ := c.d.def_ 25 (d := H02.d_law_low) rfl
  exact ⟨fd, F, He.glo_ok c.kin g (c.d.fact 25)⟩
theorem f_law_fraction (T : Fx K mg) : ∃ fd, FunD K "_law_fraction" "_law_fraction" (defArgs (top 36)) (defBody (top 36)) (defScope (top 36)) [] [] (He.ga K "_law_fraction") fd ∧ mg "_law_fraction" = some (.ref (He.ga K "_law_fraction")) := by
  obtain ⟨h, c, g⟩ := T.ex
  obtain ⟨fd, F⟩ := c.d.def_ 26 (d := H02.d_law_fraction) rfl
  exact ⟨fd, F, He.glo_ok c.kin g (c.d.fact 26)⟩
theorem f_law_add (T : Fx K mg) : ∃ fd, FunD K "_law_add" "_law_add" (defArgs (top 39)) (defBody (top 39)) (defScope (top 39)) [] [] (He.ga K "_law_add") fd ∧ mg "_law_add" = some (.ref (He.ga K "_law_add")) := by
  obtain ⟨h, c, g⟩ := T.ex
  obtain ⟨fd, F⟩ := c.d.def_ 27 (d := H02.d_law_add) rfl
  exact ⟨fd, F, He.glo_ok c.kin g (c.d.fact 27)⟩
theorem f_law_mul (T : Fx K mg) : ∃ fd, FunD K "_law_mul" "_law_mul" (defArgs (top 40)) (defBody (top 40)) (defScope (top 40)) [] [] (He.ga K "_law_mul") fd ∧ mg "_law_mul" = some (.ref (He.ga K "_law_mul")) := by
  obtain ⟨h, c, g⟩ := T.ex
  obtain ⟨fd, F⟩ := c.d.def_ 28 (d := H02.d_law_mul) rfl
  exact ⟨fd, F, He.glo_ok c.kin g (c.d.fact 28)⟩
theorem f_law_pow (T : Fx K mg) : ∃ fd, FunD K "_law_pow" "_law_pow" (defArgs (top 41)) (defBody (top 41)) (defScope (top 41)) [] [] (He.ga K "_law_pow") fd ∧ mg "_law_pow" = some (.ref (He.ga K "_law_pow")) := by
  obtain ⟨h, c, g⟩ := T.ex
  obtain ⟨fd, F⟩ := c.d.def_ 29 (d := H02.d_law_pow) rfl
  exact ⟨fd, F, He.glo_ok c.kin g (c.d.fact 29)⟩
theorem f_law_int_root (T : Fx K mg) : ∃ fd, FunD K "_law_int_root" "_law_int_root" (defArgs (top 42)) (defBody (top 42)) (defScope (top 42)) [] [] (He.ga K "_law_int_root") fd ∧ mg "_law_int_root" = some (.ref (He.ga K "_law_int_root")) := by
  obtain ⟨h, c, g⟩ := T.ex
  obtain ⟨fd, F⟩ := c.d.def_ 30 (d := H02.d_law_int_root) rfl
  exact ⟨fd, F, He.glo_ok c.kin g (c.d.fact 30)⟩
theorem f_law_value (T : Fx K mg) : ∃ fd, FunD K "_law_value" "_law_value" (defArgs (top 43)) (defBody (top 43)) (defScope (top 43)) [] [] (He.ga K "_law_value") fd ∧ mg "_law_value" = some (.ref (He.ga K "_law_value")) := by
  obtain ⟨h, c, g⟩ := T.ex
  obtain ⟨fd, F⟩ := c.d.def_ 31 (d := H02.d_law_value) rfl
  exact ⟨fd, F, He.glo_ok c.kin g (c.d.fact 31)⟩
theorem f_law_multiple (T : Fx K mg) : ∃ fd, FunD K "_law_multiple" "_law_multiple" (defArgs (top 44)) (defBody (top 44)) (defScope (top 44)) [] [] (He.ga K "_law_multiple") fd ∧ mg "_law_multiple" = some (.ref (He.ga K "_law_multiple")) := by
  obtain ⟨h, c, g⟩ := T.ex
  obtain ⟨fd, F⟩ := c.d.def_ 32 (d := H02.d_law_multiple) rfl
  exact ⟨fd, F, He.glo_ok c.kin g (c.d.fact 32)⟩
theorem f_law_times (T : Fx K mg) : ∃ fd, FunD K "_law_times" "_law_times" (defArgs (top 45)) (defBody (top 45)) (defScope (top 45)) [] [] (He.ga K "_law_times") fd ∧ mg "_law_times" = some (.ref (He.ga K "_law_times")) := by
  obtain ⟨h, c, g⟩ := T.ex
  obtain ⟨fd, F⟩ := c.d.def_ 33 (d := H02.d_law_times) rfl
  exact ⟨fd, F, He.glo_ok c.kin g (c.d.fact 33)⟩
theorem f_law_power (T : Fx K mg) : ∃ fd, FunD K "_law_power" "_law_power" (defArgs (top 46)) (defBody (top 46)) (defScope (top 46)) [] [] (He.ga K "_law_power") fd ∧ mg "_law_power" = some (.ref (He.ga K "_law_power")) := by
  obtain ⟨h, c, g⟩ := T.ex
  obtain ⟨fd, F⟩ := c.d.def_ 34 (d := H02.d_law_power) rfl
  exact ⟨fd, F, He.glo_ok c.kin g (c.d.fact 34)⟩
theorem f_law_refused (T : Fx K mg) : ∃ fd, FunD K "_law_refused" "_law_refused" (defArgs (top 47)) (defBody (top 47)) (defScope (top 47)) [] [] (He.ga K "_law_refused") fd ∧ mg "_law_refused" = some (.ref (He.ga K "_law_refused")) := by
  obtain ⟨h, c, g⟩ := T.ex
  obtain ⟨fd, F⟩ := c.d.def_ 35 (d := H02.d_law_refused) rfl
  exact ⟨fd, F, He.glo_ok c.kin g (c.d.fact 35)⟩
theorem f_law_positive (T : Fx K mg) : ∃ fd, FunD K "_law_positive" "_law_positive" (defArgs (top 48)) (defBody (top 48)) (defScope (top 48)) [] [] (He.ga K "_law_positive") fd ∧ mg "_law_positive" = some (.ref (He.ga K "_law_positive")) := by
  obtain ⟨h, c, g⟩ := T.ex
  obtain ⟨fd, F⟩ := c.d.def_ 36 (d := H02.d_law_positive) rfl
  exact ⟨fd, F, He.glo_ok c.kin g (c.d.fact 36)⟩
theorem f_law_are_products_right (T : Fx K mg) : ∃ fd, FunD K "_law_are_products_right" "_law_are_products_right" (defArgs (top 49)) (defBody (top 49)) (defScope (top 49)) [] [] (He.ga K "_law_are_products_right") fd ∧ mg "_law_are_products_right" = some (.ref (He.ga K "_law_are_products_right")) := by
  obtain ⟨h, c, g⟩ := T.ex
  obtain ⟨fd, F⟩ := c.d.def_ 37 (d := H02.d_law_are_products_right) rfl
  exact ⟨fd, F, He.glo_ok c.kin g (c.d.fact 37)⟩
theorem f_law_are_sums_right (T : Fx K mg) : ∃ fd, FunD K "_law_are_sums_right" "_law_are_sums_right" (defArgs (top 50)) (defBody (top 50)) (defScope (top 50)) [] [] (He.ga K "_law_are_sums_right") fd ∧ mg "_law_are_sums_right" = some (.ref (He.ga K "_law_are_sums_right")) := by
  obtain ⟨h, c, g⟩ := T.ex
  obtain ⟨fd, F⟩ := c.d.def_ 38 (d := H02.d_law_are_sums_right) rfl
  exact ⟨fd, F, He.glo_ok c.kin g (c.d.fact 38)⟩
theorem f_law_are_refused (T : Fx K mg) : ∃ fd, FunD K "_law_are_refused" "_law_are_refused" (defArgs (top 51)) (defBody (top 51)) (defScope (top 51)) [] [] (He.ga K "_law_are_refused") fd ∧ mg "_law_are_refused" = some (.ref (He.ga K "_law_are_refused")) := by
  obtain ⟨h, c, g⟩ := T.ex
  obtain ⟨fd, F⟩ := c.d.def_ 39 (d := H02.d_law_are_refused) rfl
  exact ⟨fd, F, He.glo_ok c.kin g (c.d.fact 39)⟩
theorem f_law_is_all_right (T : Fx K mg) : ∃ fd, FunD K "_law_is_all_right" "_law_is_all_right" (defArgs (top 52)) (defBody (top 52)) (defScope (top 52)) [] [] (He.ga K "_law_is_all_right") fd ∧ mg "_law_is_all_right" = some (.ref (He.ga K "_law_is_all_right")) := by
  obtain ⟨h, c, g⟩ := T.ex
  obtain ⟨fd, F⟩ := c.d.def_ 40 (d := H02.d_law_is_all_right) rfl
  exact ⟨fd, F, He.glo_ok c.kin g (c.d.fact 40)⟩
theorem f_law (T : Fx K mg) : ∃ fd, FunD K "law" "law" (defArgs (top 53)) (defBody (top 53)) (defScope (top 53)) [] [] (He.ga K "law") fd ∧ mg "law" = some (.ref (He.ga K "law")) := by
  obtain ⟨h, c, g⟩ := T.ex
  obtain ⟨fd, F⟩ := c.d.def_ 41 (d := H02.d_law) rfl
  exact ⟨fd, F, He.glo_ok c.kin g (c.d.fact 41)⟩
theorem xb_BadValue (T : Fx K mg) : XB.Txt K mg "BadValue" (He.ga K "BadValue") (He.ma K (He.ga K "BadValue") "__init__") := by
  obtain ⟨h, q, g⟩ := T.ex
  obtain ⟨fd, F⟩ := q.d.def_ 42 (d := H02.d_BadValue) rfl
  exact xb_of (i := "__init__") T.ex_0 T.gl_BadValue F rfl rfl rfl rfl (fun _ _ _ _ _ _ us hl => match us, hl with | [_, _], _ => rfl)
theorem xb_BadMany (T : Fx K mg) : XB.Txt K mg "BadMany" (He.ga K "BadMany") (He.ma K (He.ga K "BadMany") "__init__") := by
  obtain ⟨h, q, g⟩ := T.ex
  obtain ⟨fd, F⟩ := q.d.def_ 43 (d := H02.d_BadMany) rfl
  exact xb_of (i := "__init__") T.ex_1 T.gl_BadMany F rfl rfl rfl rfl (fun _ _ _ _ _ _ us hl => match us, hl with | [_, _], _ => rfl)
end Fx
/-- the table of _law_are_refused's code -/
def tabOf_law_are_refused (K : PySem.W.Frag) : Addr × Addr := (PySem.W.tabIn K "_law_are_refused").getD (0, 0)
theorem Fx.tab_law_are_refused {K : PySem.W.Frag} {mg : Str → Option Value} (T : Fx K mg) : PySem.W.tabIn K "_law_are_refused" = some (tabOf_law_are_refused K) := by
  obtain ⟨h, c, g⟩ := T.ex
  obtain ⟨c1, P, h1, _⟩ := c.t "_law_are_refused" (by decide)
  unfold tabOf_law_are_refused
  rw [h1]
  rfl
theorem Fx.code_law_are_refused {K : PySem.W.Frag} {mg : Str → Option Value} (T : Fx K mg) {params : Arguments} {body : List Stmt} {scope : Scope} {fd : FuncData} (F : FunD K "_law_are_refused" "_law_are_refused" params body scope [] [] (He.ga K "_law_are_refused") fd) : fd.code = .ref (tabOf_law_are_refused K).1 := by
  obtain ⟨h, c, g⟩ := T.ex
  obtain ⟨_, _, gl⟩ := T.f_law_are_refused
  exact code_of c.kin g F gl T.tab_law_are_refused
def tabsT (K : PySem.W.Frag) : List (Addr × Str) := [((tabOf_law_are_refused K).2, ("_law_are_refused" : Str) ++ ".<locals>." ++ "<lambda>")]
def codes (K : PySem.W.Frag) : List (Addr × Addr) := [tabOf_law_are_refused K]
structure Zx (K : PySem.W.Frag) (mg : Str → Option Value) (base : Heap) : Prop extends Fx K mg where
  tt : TabsOf.T = tabsT K
  tb : ∀ p ∈ codes K, LamX.TabB base mg p.1 p.2
section
variable {P : Program} {wd : World} {K : PySem.W.Frag} {mg : Str → Option Value} {base : Heap}
theorem sc_is_whole : FnScope ["thing"] ["thing"] (defScope (top 7)) := ⟨by kernel_rfl, by kernel_rfl, by kernel_rfl, by decide +kernel, rfl, by decide +kernel, by decide +kernel⟩
theorem fg_is_whole (T : Zx K mg base) {fd : FuncData} (F : FunD K "is_whole" "is_whole" (defArgs (top 7)) (defBody (top 7)) (defScope (top 7)) [] [] (He.ga K "is_whole") fd) : FnG false P wd K mg base 1 (He.ga K "is_whole") fd ["thing"] (spD K mg 1 m_is_whole) := by
  have sc := sc_is_whole
  refine fnG_of F sc fun cdv A fr s H E hcv room hgd tk => ?_
  exact (ds_one (ds_ret (d_and (d_callB f_isD rfl T.no_isinstance rfl (da_cons (d_var (pv 0)) (da_cons (d_type rfl T.no_int rfl) da_nil))) (d_and (d_not (d_callB f_isD rfl T.no_isinstance rfl (da_cons (d_var (pv 0)) (da_cons (d_type rfl T.no_bool rfl) da_nil)))) (d_one (d_cmp o_le (d_bits (d_var (pv 0))) (d_gint rfl T.int_MOST_BITS)))))))
theorem ok_is_whole (T : Zx K mg base) : DefG false P wd K mg base "is_whole" ["thing"] 1 m_is_whole := by
  obtain ⟨fd, F, gl⟩ := T.f_is_whole
  exact .of F gl (fun _ _ _ _ _ _ us hl => match us, hl with | [_], _ => rfl) (fg_is_whole T F)
theorem sc_is_whole_between : FnScope ["thing", "least", "most"] ["thing", "least", "most"] (defScope (top 8)) := ⟨by kernel_rfl, by kernel_rfl, by kernel_rfl, by decide +kernel, rfl, by decide +kernel, by decide +kernel⟩
theorem fg_is_whole_between (T : Zx K mg base) {fd : FuncData} (F : FunD K "is_whole_between" "is_whole_between" (defArgs (top 8)) (defBody (top 8)) (defScope (top 8)) [] [] (He.ga K "is_whole_between") fd) : FnG false P wd K mg base 2 (He.ga K "is_whole_between") fd ["thing", "least", "most"] (spD K mg 3 m_is_whole_between) := by
  have sc := sc_is_whole_between
  refine fnG_of F sc fun cdv A fr s H E hcv room hgd tk => ?_
  exact (ds_one (ds_ret (d_and (d_call (ok_is_whole T) (room.mono (by decide)) (fun z => nomatch z) tk rfl (da_cons (d_var (pv 0)) da_nil) (cnt_cons cnt_nil)) (d_one (d_chain o_le o_le (d_var (pv 1)) (d_var (pv 0)) (d_var (pv 2)))))))
theorem ok_is_whole_between (T : Zx K mg base) : DefG false P wd K mg base "is_whole_between" ["thing", "least", "most"] 2 m_is_whole_between := by
  obtain ⟨fd, F, gl⟩ := T.f_is_whole_between
  exact .of F gl (fun _ _ _ _ _ _ us hl => match us, hl with | [_, _, _], _ => rfl) (fg_is_whole_between T F)
theorem sc_is_tuple_of : FnScope ["thing", "many"] ["thing", "many"] (defScope (top 9)) := ⟨by kernel_rfl, by kernel_rfl, by kernel_rfl, by decide +kernel, rfl, by decide +kernel, by decide +kernel⟩
theorem fg_is_tuple_of (T : Zx K mg base) {fd : FuncData} (F : FunD K "is_tuple_of" "is_tuple_of" (defArgs (top 9)) (defBody (top 9)) (defScope (top 9)) [] [] (He.ga K "is_tuple_of") fd) : FnG false P wd K mg base 1 (He.ga K "is_tuple_of") fd ["thing", "many"] (spD K mg 2 m_is_tuple_of) := by
  have sc := sc_is_tuple_of
  refine fnG_of F sc fun cdv A fr s H E hcv room hgd tk => ?_
  exact (ds_one (ds_ret (d_and (d_callB f_isD rfl T.no_isinstance rfl (da_cons (d_var (pv 0)) (da_cons (d_type rfl T.no_tuple rfl) da_nil))) (d_one (d_cmp (o_eq (room64 room)) (d_callB f_len rfl T.no_len rfl (da_cons (d_var (pv 0)) da_nil)) (d_var (pv 1)))))))
theorem ok_is_tuple_of (T : Zx K mg base) : DefG false P wd K mg base "is_tuple_of" ["thing", "many"] 1 m_is_tuple_of := by
  obtain ⟨fd, F, gl⟩ := T.f_is_tuple_of
  exact .of F gl (fun _ _ _ _ _ _ us hl => match us, hl with | [_, _], _ => rfl) (fg_is_tuple_of T F)
theorem sc_whole_power : FnScope ["number", "many", "found"] ["number", "many"] (defScope (top 11)) := ⟨by kernel_rfl, by kernel_rfl, by kernel_rfl, by decide +kernel, rfl, by decide +kernel, by decide +kernel⟩
theorem fg_whole_power (T : Zx K mg base) {fd : FuncData} (F : FunD K "whole_power" "whole_power" (defArgs (top 11)) (defBody (top 11)) (defScope (top 11)) [] [] (He.ga K "whole_power") fd) : FnG false P wd K mg base 1 (He.ga K "whole_power") fd ["number", "many"] (spD K mg 2 m_whole_power) := by
  have sc := sc_whole_power
  refine fnG_of F sc fun cdv A fr s H E hcv room hgd tk => ?_
  exact (ds_cons (ds_set (i := 2) sc.nd rfl (by first | exact Or.inl rfl | exact Or.inr rfl) d_int) (ds_cons (ds_while 100000 (passes_of rfl) (dt_cmp o_gt (d_var (pv 1)) d_int) (ds_cons (ds_if (dt_cmp (o_eq (room64 room)) (d_op o_mod (d_var (pv 1)) d_int) d_int) (ds_one (ds_set (i := 2) sc.nd rfl (by first | exact Or.inl rfl | exact Or.inr rfl) (d_op o_mulI (d_var (pv 2)) (d_var (pv 0))))) ds_nil) (ds_one (ds_par (i := 0) (j := 1) rfl sc.nd rfl rfl (by decide) rfl rfl (da_cons (d_op o_mulI (d_var (pv 0)) (d_var (pv 0))) (da_cons (d_op o_div (d_var (pv 1)) d_int) da_nil)))))) (ds_one (ds_ret (d_var (pv 2))))))
theorem ok_whole_power (T : Zx K mg base) : DefG false P wd K mg base "whole_power" ["number", "many"] 1 m_whole_power := by
  obtain ⟨fd, F, gl⟩ := T.f_whole_power
  exact .of F gl (fun _ _ _ _ _ _ us hl => match us, hl with | [_, _], _ => rfl) (fg_whole_power T F)
theorem sc_made : FnScope ["num", "den", "shared"] ["num", "den"] (defScope (top 12)) := ⟨by kernel_rfl, by kernel_rfl, by kernel_rfl, by decide +kernel, rfl, by decide +kernel, by decide +kernel⟩
theorem fg_made (T : Zx K mg base) {fd : FuncData} (F : FunD K "made" "made" (defArgs (top 12)) (defBody (top 12)) (defScope (top 12)) [] [] (He.ga K "made") fd) : FnG false P wd K mg base 1 (He.ga K "made") fd ["num", "den"] (spD K mg 2 m_made) := by
  have sc := sc_made
  refine fnG_of F sc fun cdv A fr s H E hcv room hgd tk => ?_
  exact (ds_cons (ds_set (i := 2) sc.nd rfl (by first | exact Or.inl rfl | exact Or.inr rfl) (d_callF f_gcd rfl T.fn_gcd (da_cons (d_var (pv 0)) (da_cons (d_var (pv 1)) da_nil)))) (ds_cons (ds_if (dt_cmp o_lt (d_var (pv 1)) d_int) (ds_one (ds_set (i := 2) sc.nd rfl (by first | exact Or.inl rfl | exact Or.inr rfl) (d_un o_neg (d_var (pv 2))))) ds_nil) (ds_one (ds_ret (d_tup (da_cons (d_op o_div (d_var (pv 0)) (d_var (pv 2))) (da_cons (d_op o_div (d_var (pv 1)) (d_var (pv 2))) da_nil)))))))
theorem ok_made (T : Zx K mg base) : DefG false P wd K mg base "made" ["num", "den"] 1 m_made := by
  obtain ⟨fd, F, gl⟩ := T.f_made
  exact .of F gl (fun _ _ _ _ _ _ us hl => match us, hl with | [_, _], _ => rfl) (fg_made T F)
theorem sc_whole_root : FnScope ["number", "degree", "low", "high", "middle"] ["number", "degree"] (defScope (top 16)) := ⟨by kernel_rfl, by kernel_rfl, by kernel_rfl, by decide +kernel, rfl, by decide +kernel, by decide +kernel⟩
theorem fg_whole_root (T : Zx K mg base) {fd : FuncData} (F : FunD K "whole_root" "whole_root" (defArgs (top 16)) (defBody (top 16)) (defScope (top 16)) [] [] (He.ga K "whole_root") fd) : FnG false P wd K mg base 2 (He.ga K "whole_root") fd ["number", "degree"] (spD K mg 2 m_whole_root) := by
  have sc := sc_whole_root
  refine fnG_of F sc fun cdv A fr s H E hcv room hgd tk => ?_
  exact (ds_cons (ds_if (dt_w (dw_or (dt_cmp o_lt (d_var (pv 0)) d_int) (dw_or1 (dt_cmp (o_eq (room64 room)) (d_var (pv 1)) d_int)))) (ds_one (ds_ret (d_var (pv 0)))) ds_nil) (ds_cons (ds_par (i := 2) (j := 3) rfl sc.nd rfl rfl (by decide) rfl rfl (da_cons d_int (da_cons (d_call (ok_whole_power T) (room.mono (by decide)) (fun z => nomatch z) tk rfl (da_cons d_int (da_cons (d_op o_add (d_op o_div (d_bits (d_var (pv 0))) (d_var (pv 1))) d_int) da_nil)) (cnt_cons (cnt_cons cnt_nil))) da_nil))) (ds_cons (ds_while 100000 (passes_of rfl) (dt_cmp o_gt (d_op o_sub (d_var (pv 3)) (d_var (pv 2))) d_int) (ds_cons (ds_set (i := 4) sc.nd rfl (by first | exact Or.inl rfl | exact Or.inr rfl) (d_op o_div (d_op o_add (d_var (pv 2)) (d_var (pv 3))) d_int)) (ds_one (ds_if (dt_cmp o_le (d_call (ok_whole_power T) (room.mono (by decide)) (fun z => nomatch z) tk rfl (da_cons (d_var (pv 4)) (da_cons (d_var (pv 1)) da_nil)) (cnt_cons (cnt_cons cnt_nil))) (d_var (pv 0))) (ds_one (ds_set (i := 2) sc.nd rfl (by first | exact Or.inl rfl | exact Or.inr rfl) (d_var (pv 4)))) (ds_one (ds_set (i := 3) sc.nd rfl (by first | exact Or.inl rfl | exact Or.inr rfl) (d_var (pv 4)))))))) (ds_one (ds_ret (d_var (pv 2)))))))
theorem ok_whole_root (T : Zx K mg base) : DefG false P wd K mg base "whole_root" ["number", "degree"] 2 m_whole_root := by
  obtain ⟨fd, F, gl⟩ := T.f_whole_root
  exact .of F gl (fun _ _ _ _ _ _ us hl => match us, hl with | [_, _], _ => rfl) (fg_whole_root T F)
theorem sc_is_power_to : FnScope ["number", "degree"] ["number", "degree"] (defScope (top 17)) := ⟨by kernel_rfl, by kernel_rfl, by kernel_rfl, by decide +kernel, rfl, by decide +kernel, by decide +kernel⟩
theorem fg_is_power_to (T : Zx K mg base) {fd : FuncData} (F : FunD K "is_power_to" "is_power_to" (defArgs (top 17)) (defBody (top 17)) (defScope (top 17)) [] [] (He.ga K "is_power_to") fd) : FnG false P wd K mg base 3 (He.ga K "is_power_to") fd ["number", "degree"] (spD K mg 2 m_is_power_to) := by
  have sc := sc_is_power_to
  refine fnG_of F sc fun cdv A fr s H E hcv room hgd tk => ?_
  exact (ds_one (ds_ret (d_cmp (o_eq (room64 room)) (d_call (ok_whole_power T) (room.mono (by decide)) (fun z => nomatch z) tk rfl (da_cons (d_call (ok_whole_root T) (room.mono (by decide)) (fun z => nomatch z) tk rfl (da_cons (d_var (pv 0)) (da_cons (d_var (pv 1)) da_nil)) (cnt_cons (cnt_cons cnt_nil))) (da_cons (d_var (pv 1)) da_nil)) (cnt_cons (cnt_cons cnt_nil))) (d_var (pv 0)))))
theorem ok_is_power_to (T : Zx K mg base) : DefG false P wd K mg base "is_power_to" ["number", "degree"] 3 m_is_power_to := by
  obtain ⟨fd, F, gl⟩ := T.f_is_power_to
  exact .of F gl (fun _ _ _ _ _ _ us hl => match us, hl with | [_, _], _ => rfl) (fg_is_power_to T F)
theorem sc_shared_degree : FnScope ["num", "den", "deg", "left", "part", "most"] ["num", "den", "deg"] (defScope (top 18)) := ⟨by kernel_rfl, by kernel_rfl, by kernel_rfl, by decide +kernel, rfl, by decide +kernel, by decide +kernel⟩
theorem fg_shared_degree (T : Zx K mg base) {fd : FuncData} (F : FunD K "shared_degree" "shared_degree" (defArgs (top 18)) (defBody (top 18)) (defScope (top 18)) [] [] (He.ga K "shared_degree") fd) : FnG false P wd K mg base 4 (He.ga K "shared_degree") fd ["num", "den", "deg"] (spD K mg 3 m_shared_degree) := by
  have sc := sc_shared_degree
  refine fnG_of F sc fun cdv A fr s H E hcv room hgd tk => ?_
  exact (ds_cons (ds_if (dt_w (dw_and (dt_cmp (o_eq (room64 room)) (d_var (pv 0)) d_int) (dw_and1 (dt_cmp (o_eq (room64 room)) (d_var (pv 1)) d_int)))) (ds_one (ds_ret (d_var (pv 2)))) ds_nil) (ds_cons (ds_par3 (i := 3) (j := 4) (l := 5) rfl sc.nd rfl rfl rfl (by decide) (by decide) (by decide) rfl rfl rfl (da_cons (d_var (pv 2)) (da_cons d_int (da_cons (d_callB (f_max rfl) rfl T.no_max rfl (da_cons (d_bits (d_var (pv 0))) (da_cons (d_bits (d_var (pv 1))) da_nil))) da_nil)))) (ds_cons (ds_while 100000 (passes_of rfl) (dt_w (dw_and (dt_cmp o_gt (d_var (pv 3)) d_int) (dw_and1 (dt_cmp o_le (d_var (pv 4)) (d_var (pv 5)))))) (ds_cons (ds_if (dt_cmp (o_eq (room64 room)) (d_op o_mod (d_var (pv 3)) (d_var (pv 4))) d_int) (ds_cons (ds_if (dt_w (dw_and (dt_of (d_call (ok_is_power_to T) (room.mono (by decide)) (fun z => nomatch z) tk rfl (da_cons (d_var (pv 0)) (da_cons (d_var (pv 4)) da_nil)) (cnt_cons (cnt_cons cnt_nil)))) (dw_and1 (dt_of (d_call (ok_is_power_to T) (room.mono (by decide)) (fun z => nomatch z) tk rfl (da_cons (d_var (pv 1)) (da_cons (d_var (pv 4)) da_nil)) (cnt_cons (cnt_cons cnt_nil))))))) (ds_one (ds_ret (d_var (pv 4)))) ds_nil) (ds_one (ds_while 100000 (passes_of rfl) (dt_cmp (o_eq (room64 room)) (d_op o_mod (d_var (pv 3)) (d_var (pv 4))) d_int) (ds_one (ds_set (i := 3) sc.nd rfl (by first | exact Or.inl rfl | exact Or.inr rfl) (d_op o_div (d_var (pv 3)) (d_var (pv 4)))))))) ds_nil) (ds_one (ds_set (i := 4) sc.nd rfl (by first | exact Or.inl rfl | exact Or.inr rfl) (d_op o_add (d_var (pv 4)) d_int))))) (ds_one (ds_ret d_int)))))
theorem ok_shared_degree (T : Zx K mg base) : DefG false P wd K mg base "shared_degree" ["num", "den", "deg"] 4 m_shared_degree := by
  obtain ⟨fd, F, gl⟩ := T.f_shared_degree
  exact .of F gl (fun _ _ _ _ _ _ us hl => match us, hl with | [_, _, _], _ => rfl) (fg_shared_degree T F)
theorem sc_lowest : FnScope ["num", "den", "deg", "shared", "part"] ["num", "den", "deg"] (defScope (top 19)) := ⟨by kernel_rfl, by kernel_rfl, by kernel_rfl, by decide +kernel, rfl, by decide +kernel, by decide +kernel⟩
theorem fg_lowest (T : Zx K mg base) {fd : FuncData} (F : FunD K "lowest" "lowest" (defArgs (top 19)) (defBody (top 19)) (defScope (top 19)) [] [] (He.ga K "lowest") fd) : FnG false P wd K mg base 5 (He.ga K "lowest") fd ["num", "den", "deg"] (spD K mg 3 m_lowest) := by
  have sc := sc_lowest
  refine fnG_of F sc fun cdv A fr s H E hcv room hgd tk => ?_
  exact (ds_cons (ds_set (i := 3) sc.nd rfl (by first | exact Or.inl rfl | exact Or.inr rfl) (d_callF f_gcd rfl T.fn_gcd (da_cons (d_var (pv 0)) (da_cons (d_var (pv 1)) da_nil)))) (ds_cons (ds_par (i := 0) (j := 1) rfl sc.nd rfl rfl (by decide) rfl rfl (da_cons (d_op o_div (d_var (pv 0)) (d_var (pv 3))) (da_cons (d_op o_div (d_var (pv 1)) (d_var (pv 3))) da_nil))) (ds_cons (ds_set (i := 4) sc.nd rfl (by first | exact Or.inl rfl | exact Or.inr rfl) (d_call (ok_shared_degree T) (room.mono (by decide)) (fun z => nomatch z) tk rfl (da_cons (d_var (pv 0)) (da_cons (d_var (pv 1)) (da_cons (d_var (pv 2)) da_nil))) (cnt_cons (cnt_cons (cnt_cons cnt_nil))))) (ds_cons (ds_while 100000 (passes_of rfl) (dt_cmp o_gt (d_var (pv 4)) d_int) (ds_cons (ds_par3 (i := 0) (j := 1) (l := 2) rfl sc.nd rfl rfl rfl (by decide) (by decide) (by decide) rfl rfl rfl (da_cons (d_call (ok_whole_root T) (room.mono (by decide)) (fun z => nomatch z) tk rfl (da_cons (d_var (pv 0)) (da_cons (d_var (pv 4)) da_nil)) (cnt_cons (cnt_cons cnt_nil))) (da_cons (d_call (ok_whole_root T) (room.mono (by decide)) (fun z => nomatch z) tk rfl (da_cons (d_var (pv 1)) (da_cons (d_var (pv 4)) da_nil)) (cnt_cons (cnt_cons cnt_nil))) (da_cons (d_op o_div (d_var (pv 2)) (d_var (pv 4))) da_nil)))) (ds_one (ds_set (i := 4) sc.nd rfl (by first | exact Or.inl rfl | exact Or.inr rfl) (d_call (ok_shared_degree T) (room.mono (by decide)) (fun z => nomatch z) tk rfl (da_cons (d_var (pv 0)) (da_cons (d_var (pv 1)) (da_cons (d_var (pv 2)) da_nil))) (cnt_cons (cnt_cons (cnt_cons cnt_nil)))))))) (ds_one (ds_ret (d_tup (da_cons (d_var (pv 0)) (da_cons (d_var (pv 1)) (da_cons (d_var (pv 2)) da_nil))))))))))
theorem ok_lowest (T : Zx K mg base) : DefG false P wd K mg base "lowest" ["num", "den", "deg"] 5 m_lowest := by
  obtain ⟨fd, F, gl⟩ := T.f_lowest
  exact .of F gl (fun _ _ _ _ _ _ us hl => match us, hl with | [_, _, _], _ => rfl) (fg_lowest T F)
theorem sc_is_value_form : FnScope ["thing", "num", "den", "deg", "part"] ["thing"] (defScope (top 20)) := ⟨by kernel_rfl, by kernel_rfl, by kernel_rfl, by decide +kernel, rfl, by decide +kernel, by decide +kernel⟩
theorem fg_is_value_form (T : Zx K mg base) {fd : FuncData} (F : FunD K "is_value_form" "is_value_form" (defArgs (top 20)) (defBody (top 20)) (defScope (top 20)) [] [] (He.ga K "is_value_form") fd) : FnG false P wd K mg base 5 (He.ga K "is_value_form") fd ["thing"] (spD K mg 1 m_is_value_form) := by
  have sc := sc_is_value_form
  refine fnG_of F sc fun cdv A fr s H E hcv room hgd tk => ?_
  exact (ds_cons (ds_if (dt_w (dw_or (dt_not (dt_of (d_call (ok_is_tuple_of T) (room.mono (by decide)) (fun z => nomatch z) tk rfl (da_cons (d_var (pv 0)) (da_cons (d_gint rfl T.int_VALUE_PARTS) da_nil)) (cnt_cons (cnt_cons cnt_nil))))) (dw_or1 (dt_not (dt_of (d_callB (f_all rfl) rfl T.no_all rfl (da_cons (d_lc (own := [("part", 4)]) rfl sc.nd (di_seq (d_var (pv 0))) (blkOk_by (by kernel_rfl)) (fun Xb hX => by (obtain ⟨s2, H2, C2, cl2, fp2, rfl⟩ := hX); exact (dg_name (pg_name sc.nd rfl (by first | exact Or.inl rfl | exact Or.inr rfl)))) (fun Xb hX => by (obtain ⟨s2, H2, C2, cl2, fp2, rfl⟩ := hX); exact dts_nil) (fun Xb hX => by (obtain ⟨s2, H2, C2, cl2, fp2, rfl⟩ := hX); exact (d_call (ok_is_whole T) (room.mono (by decide)) (fun z => nomatch z) LamX.takes0 rfl (da_cons (d_var (pv 4)) da_nil) (cnt_cons cnt_nil)))) da_nil))))))) (ds_one (ds_ret d_bl)) ds_nil) (ds_cons (ds_asg (d_var (pv 0)) (dg_tup rfl (dg_cons (dg_name (pg_name sc.nd rfl (by first | exact Or.inl rfl | exact Or.inr rfl))) (dg_cons (dg_name (pg_name sc.nd rfl (by first | exact Or.inl rfl | exact Or.inr rfl))) (dg_cons (dg_name (pg_name sc.nd rfl (by first | exact Or.inl rfl | exact Or.inr rfl))) dg_nil))))) (ds_cons (ds_if (dt_w (dw_or (dt_cmp o_lt (d_var (pv 2)) d_int) (dw_or (dt_cmp o_lt (d_var (pv 3)) d_int) (dw_or1 (dt_cmp (o_ne (room64 room)) (d_callF f_gcd rfl T.fn_gcd (da_cons (d_var (pv 1)) (da_cons (d_var (pv 2)) da_nil))) d_int))))) (ds_one (ds_ret d_bl)) ds_nil) (ds_cons (ds_if (dt_cmp (o_eq (room64 room)) (d_var (pv 3)) d_int) (ds_one (ds_ret d_bl)) ds_nil) (ds_one (ds_ret (d_and (d_cmp o_ge (d_var (pv 1)) d_int) (d_one (d_cmp (o_eq (room64 room)) (d_call (ok_shared_degree T) (room.mono (by decide)) (fun z => nomatch z) tk rfl (da_cons (d_var (pv 1)) (da_cons (d_var (pv 2)) (da_cons (d_var (pv 3)) da_nil))) (cnt_cons (cnt_cons (cnt_cons cnt_nil)))) d_int)))))))))
theorem ok_is_value_form (T : Zx K mg base) : DefG false P wd K mg base "is_value_form" ["thing"] 5 m_is_value_form := by
  obtain ⟨fd, F, gl⟩ := T.f_is_value_form
  exact .of F gl (fun _ _ _ _ _ _ us hl => match us, hl with | [_], _ => rfl) (fg_is_value_form T F)
theorem sc_is_positive_value : FnScope ["thing"] ["thing"] (defScope (top 21)) := ⟨by kernel_rfl, by kernel_rfl, by kernel_rfl, by decide +kernel, rfl, by decide +kernel, by decide +kernel⟩
theorem fg_is_positive_value (T : Zx K mg base) {fd : FuncData} (F : FunD K "is_positive_value" "is_positive_value" (defArgs (top 21)) (defBody (top 21)) (defScope (top 21)) [] [] (He.ga K "is_positive_value") fd) : FnG false P wd K mg base 6 (He.ga K "is_positive_value") fd ["thing"] (spD K mg 1 m_is_positive_value) := by
  have sc := sc_is_positive_value
  refine fnG_of F sc fun cdv A fr s H E hcv room hgd tk => ?_
  exact (ds_one (ds_ret (d_and (d_call (ok_is_value_form T) (room.mono (by decide)) (fun z => nomatch z) tk rfl (da_cons (d_var (pv 0)) da_nil) (cnt_cons cnt_nil)) (d_one (d_cmp o_gt (d_ix x_ix (d_var (pv 0)) d_int) d_int)))))
theorem ok_is_positive_value (T : Zx K mg base) : DefG false P wd K mg base "is_positive_value" ["thing"] 6 m_is_positive_value := by
  obtain ⟨fd, F, gl⟩ := T.f_is_positive_value
  exact .of F gl (fun _ _ _ _ _ _ us hl => match us, hl with | [_], _ => rfl) (fg_is_positive_value T F)
theorem sc_is_fraction_value : FnScope ["thing"] ["thing"] (defScope (top 22)) := ⟨by kernel_rfl, by kernel_rfl, by kernel_rfl, by decide +kernel, rfl, by decide +kernel, by decide +kernel⟩
theorem fg_is_fraction_value (T : Zx K mg base) {fd : FuncData} (F : FunD K "is_fraction_value" "is_fraction_value" (defArgs (top 22)) (defBody (top 22)) (defScope (top 22)) [] [] (He.ga K "is_fraction_value") fd) : FnG false P wd K mg base 6 (He.ga K "is_fraction_value") fd ["thing"] (spD K mg 1 m_is_fraction_value) := by
  have sc := sc_is_fraction_value
  refine fnG_of F sc fun cdv A fr s H E hcv room hgd tk => ?_
  exact (ds_one (ds_ret (d_and (d_call (ok_is_value_form T) (room.mono (by decide)) (fun z => nomatch z) tk rfl (da_cons (d_var (pv 0)) da_nil) (cnt_cons cnt_nil)) (d_one (d_cmp (o_eq (room64 room)) (d_ix x_ix (d_var (pv 0)) d_int) d_int)))))
theorem ok_is_fraction_value (T : Zx K mg base) : DefG false P wd K mg base "is_fraction_value" ["thing"] 6 m_is_fraction_value := by
  obtain ⟨fd, F, gl⟩ := T.f_is_fraction_value
  exact .of F gl (fun _ _ _ _ _ _ us hl => match us, hl with | [_], _ => rfl) (fg_is_fraction_value T F)
theorem sc_compared : FnScope ["one", "other", "whole", "left", "right", "here", "there"] ["one", "other"] (defScope (top 23)) := ⟨by kernel_rfl, by kernel_rfl, by kernel_rfl, by decide +kernel, rfl, by decide +kernel, by decide +kernel⟩
theorem fg_compared (T : Zx K mg base) {fd : FuncData} (F : FunD K "compared" "compared" (defArgs (top 23)) (defBody (top 23)) (defScope (top 23)) [] [] (He.ga K "compared") fd) : FnG false P wd K mg base 2 (He.ga K "compared") fd ["one", "other"] (spD K mg 2 m_compared) := by
  have sc := sc_compared
  refine fnG_of F sc fun cdv A fr s H E hcv room hgd tk => ?_
  exact (ds_cons (ds_if (dt_w (dw_or (dt_cmp o_le (d_ix x_ix (d_var (pv 0)) d_int) d_int) (dw_or (dt_cmp o_le (d_ix x_ix (d_var (pv 1)) d_int) d_int) (dw_or1 (dt_w (dw_and (dt_cmp (o_eq (room64 room)) (d_ix x_ix (d_var (pv 0)) d_int) d_int) (dw_and1 (dt_cmp (o_eq (room64 room)) (d_ix x_ix (d_var (pv 1)) d_int) d_int)))))))) (ds_cons (ds_asg (d_if (dt_chain (o_eq (room64 room)) (o_eq (room64 room)) (d_ix x_ix (d_var (pv 0)) d_int) (d_ix x_ix (d_var (pv 1)) d_int) d_int) (d_tup (da_cons (d_op o_mulI (d_ix x_ix (d_var (pv 0)) d_int) (d_ix x_ix (d_var (pv 1)) d_int)) (da_cons (d_op o_mulI (d_ix x_ix (d_var (pv 1)) d_int) (d_ix x_ix (d_var (pv 0)) d_int)) da_nil))) (d_tup (da_cons (d_ix x_ix (d_var (pv 0)) d_int) (da_cons (d_ix x_ix (d_var (pv 1)) d_int) da_nil)))) (dg_tup rfl (dg_cons (dg_name (pg_name sc.nd rfl (by first | exact Or.inl rfl | exact Or.inr rfl))) (dg_cons (dg_name (pg_name sc.nd rfl (by first | exact Or.inl rfl | exact Or.inr rfl))) dg_nil)))) (ds_cons (ds_if (dt_w (dw_or (dt_cmp (o_ne (room64 room)) (d_ix x_ix (d_var (pv 0)) d_int) d_int) (dw_or1 (dt_cmp (o_ne (room64 room)) (d_ix x_ix (d_var (pv 1)) d_int) d_int)))) (ds_one (ds_par (i := 3) (j := 4) rfl sc.nd rfl rfl (by decide) rfl rfl (da_cons (d_callTy f_int rfl T.no_int rfl (da_cons (d_cmp o_gt (d_var (pv 3)) d_int) da_nil)) (da_cons (d_callTy f_int rfl T.no_int rfl (da_cons (d_cmp o_gt (d_var (pv 4)) d_int) da_nil)) da_nil)))) ds_nil) (ds_one (ds_ret (d_op o_sub (d_callTy f_int rfl T.no_int rfl (da_cons (d_cmp o_gt (d_var (pv 3)) (d_var (pv 4))) da_nil)) (d_callTy f_int rfl T.no_int rfl (da_cons (d_cmp o_lt (d_var (pv 3)) (d_var (pv 4))) da_nil))))))) ds_nil) (ds_cons (ds_set (i := 2) sc.nd rfl (by first | exact Or.inl rfl | exact Or.inr rfl) (d_callF f_lcm rfl T.fn_lcm (da_cons (d_ix x_ix (d_var (pv 0)) d_int) (da_cons (d_ix x_ix (d_var (pv 1)) d_int) da_nil)))) (ds_cons (ds_par (i := 5) (j := 6) rfl sc.nd rfl rfl (by decide) rfl rfl (da_cons (d_op o_div (d_var (pv 2)) (d_ix x_ix (d_var (pv 0)) d_int)) (da_cons (d_op o_div (d_var (pv 2)) (d_ix x_ix (d_var (pv 1)) d_int)) da_nil))) (ds_cons (ds_set (i := 3) sc.nd rfl (by first | exact Or.inl rfl | exact Or.inr rfl) (d_op o_mulI (d_call (ok_whole_power T) (room.mono (by decide)) (fun z => nomatch z) tk rfl (da_cons (d_ix x_ix (d_var (pv 0)) d_int) (da_cons (d_var (pv 5)) da_nil)) (cnt_cons (cnt_cons cnt_nil))) (d_call (ok_whole_power T) (room.mono (by decide)) (fun z => nomatch z) tk rfl (da_cons (d_ix x_ix (d_var (pv 1)) d_int) (da_cons (d_var (pv 6)) da_nil)) (cnt_cons (cnt_cons cnt_nil))))) (ds_cons (ds_set (i := 4) sc.nd rfl (by first | exact Or.inl rfl | exact Or.inr rfl) (d_op o_mulI (d_call (ok_whole_power T) (room.mono (by decide)) (fun z => nomatch z) tk rfl (da_cons (d_ix x_ix (d_var (pv 1)) d_int) (da_cons (d_var (pv 6)) da_nil)) (cnt_cons (cnt_cons cnt_nil))) (d_call (ok_whole_power T) (room.mono (by decide)) (fun z => nomatch z) tk rfl (da_cons (d_ix x_ix (d_var (pv 0)) d_int) (da_cons (d_var (pv 5)) da_nil)) (cnt_cons (cnt_cons cnt_nil))))) (ds_one (ds_ret (d_op o_sub (d_callTy f_int rfl T.no_int rfl (da_cons (d_cmp o_gt (d_var (pv 3)) (d_var (pv 4))) da_nil)) (d_callTy f_int rfl T.no_int rfl (da_cons (d_cmp o_lt (d_var (pv 3)) (d_var (pv 4))) da_nil))))))))))
theorem ok_compared (T : Zx K mg base) : DefG false P wd K mg base "compared" ["one", "other"] 2 m_compared := by
  obtain ⟨fd, F, gl⟩ := T.f_compared
  exact .of F gl (fun _ _ _ _ _ _ us hl => match us, hl with | [_, _], _ => rfl) (fg_compared T F)
theorem sc_multiplied_roots : FnScope ["one", "other", "whole", "num", "here", "there"] ["one", "other"] (defScope (top 24)) := ⟨by kernel_rfl, by kernel_rfl, by kernel_rfl, by decide +kernel, rfl, by decide +kernel, by decide +kernel⟩
theorem fg_multiplied_roots (T : Zx K mg base) {fd : FuncData} (F : FunD K "multiplied_roots" "multiplied_roots" (defArgs (top 24)) (defBody (top 24)) (defScope (top 24)) [] [] (He.ga K "multiplied_roots") fd) : FnG false P wd K mg base 6 (He.ga K "multiplied_roots") fd ["one", "other"] (spD K mg 2 m_multiplied_roots) := by
  have sc := sc_multiplied_roots
  refine fnG_of F sc fun cdv A fr s H E hcv room hgd tk => ?_
  exact (ds_cons (ds_set (i := 2) sc.nd rfl (by first | exact Or.inl rfl | exact Or.inr rfl) (d_callF f_lcm rfl T.fn_lcm (da_cons (d_ix x_ix (d_var (pv 0)) d_int) (da_cons (d_ix x_ix (d_var (pv 1)) d_int) da_nil)))) (ds_cons (ds_par (i := 4) (j := 5) rfl sc.nd rfl rfl (by decide) rfl rfl (da_cons (d_op o_div (d_var (pv 2)) (d_ix x_ix (d_var (pv 0)) d_int)) (da_cons (d_op o_div (d_var (pv 2)) (d_ix x_ix (d_var (pv 1)) d_int)) da_nil))) (ds_cons (ds_set (i := 3) sc.nd rfl (by first | exact Or.inl rfl | exact Or.inr rfl) (d_op o_mulI (d_call (ok_whole_power T) (room.mono (by decide)) (fun z => nomatch z) tk rfl (da_cons (d_ix x_ix (d_var (pv 0)) d_int) (da_cons (d_var (pv 4)) da_nil)) (cnt_cons (cnt_cons cnt_nil))) (d_call (ok_whole_power T) (room.mono (by decide)) (fun z => nomatch z) tk rfl (da_cons (d_ix x_ix (d_var (pv 1)) d_int) (da_cons (d_var (pv 5)) da_nil)) (cnt_cons (cnt_cons cnt_nil))))) (ds_one (ds_ret (d_call (ok_lowest T) (room.mono (by decide)) (fun z => nomatch z) tk rfl (da_cons (d_var (pv 3)) (da_cons (d_op o_mulI (d_call (ok_whole_power T) (room.mono (by decide)) (fun z => nomatch z) tk rfl (da_cons (d_ix x_ix (d_var (pv 0)) d_int) (da_cons (d_var (pv 4)) da_nil)) (cnt_cons (cnt_cons cnt_nil))) (d_call (ok_whole_power T) (room.mono (by decide)) (fun z => nomatch z) tk rfl (da_cons (d_ix x_ix (d_var (pv 1)) d_int) (da_cons (d_var (pv 5)) da_nil)) (cnt_cons (cnt_cons cnt_nil)))) (da_cons (d_var (pv 2)) da_nil))) (cnt_cons (cnt_cons (cnt_cons cnt_nil)))))))))
theorem ok_multiplied_roots (T : Zx K mg base) : DefG false P wd K mg base "multiplied_roots" ["one", "other"] 6 m_multiplied_roots := by
  obtain ⟨fd, F, gl⟩ := T.f_multiplied_roots
  exact .of F gl (fun _ _ _ _ _ _ us hl => match us, hl with | [_, _], _ => rfl) (fg_multiplied_roots T F)
theorem sc_powered : FnScope ["one", "exponent", "many", "num", "den", "deg"] ["one", "exponent"] (defScope (top 25)) := ⟨by kernel_rfl, by kernel_rfl, by kernel_rfl, by decide +kernel, rfl, by decide +kernel, by decide +kernel⟩
theorem fg_powered (T : Zx K mg base) {fd : FuncData} (F : FunD K "powered" "powered" (defArgs (top 25)) (defBody (top 25)) (defScope (top 25)) [] [] (He.ga K "powered") fd) : FnG false P wd K mg base 6 (He.ga K "powered") fd ["one", "exponent"] (spD K mg 2 m_powered) := by
  have sc := sc_powered
  refine fnG_of F sc fun cdv A fr s H E hcv room hgd tk => ?_
  exact (ds_cons (ds_asg (d_var (pv 0)) (dg_tup rfl (dg_cons (dg_name (pg_name sc.nd rfl (by first | exact Or.inl rfl | exact Or.inr rfl))) (dg_cons (dg_name (pg_name sc.nd rfl (by first | exact Or.inl rfl | exact Or.inr rfl))) (dg_cons (dg_name (pg_name sc.nd rfl (by first | exact Or.inl rfl | exact Or.inr rfl))) dg_nil))))) (ds_cons (ds_if (dt_cmp o_lt (d_ix x_ix (d_var (pv 1)) d_int) d_int) (ds_one (ds_par (i := 3) (j := 4) rfl sc.nd rfl rfl (by decide) rfl rfl (da_cons (d_var (pv 4)) (da_cons (d_var (pv 3)) da_nil)))) ds_nil) (ds_cons (ds_set (i := 2) sc.nd rfl (by first | exact Or.inl rfl | exact Or.inr rfl) (d_callB f_abs rfl T.no_abs rfl (da_cons (d_ix x_ix (d_var (pv 1)) d_int) da_nil))) (ds_one (ds_ret (d_call (ok_lowest T) (room.mono (by decide)) (fun z => nomatch z) tk rfl (da_cons (d_call (ok_whole_power T) (room.mono (by decide)) (fun z => nomatch z) tk rfl (da_cons (d_var (pv 3)) (da_cons (d_var (pv 2)) da_nil)) (cnt_cons (cnt_cons cnt_nil))) (da_cons (d_call (ok_whole_power T) (room.mono (by decide)) (fun z => nomatch z) tk rfl (da_cons (d_var (pv 4)) (da_cons (d_var (pv 2)) da_nil)) (cnt_cons (cnt_cons cnt_nil))) (da_cons (d_op o_mulI (d_var (pv 5)) (d_ix x_ix (d_var (pv 1)) d_int)) da_nil))) (cnt_cons (cnt_cons (cnt_cons cnt_nil)))))))))
theorem ok_powered (T : Zx K mg base) : DefG false P wd K mg base "powered" ["one", "exponent"] 6 m_powered := by
  obtain ⟨fd, F, gl⟩ := T.f_powered
  exact .of F gl (fun _ _ _ _ _ _ us hl => match us, hl with | [_, _], _ => rfl) (fg_powered T F)
theorem sc_need_value : FnScope ["value"] ["value"] (defScope (top 26)) := ⟨by kernel_rfl, by kernel_rfl, by kernel_rfl, by decide +kernel, rfl, by decide +kernel, by decide +kernel⟩
theorem fg_need_value (T : Zx K mg base) {fd : FuncData} (F : FunD K "need_value" "need_value" (defArgs (top 26)) (defBody (top 26)) (defScope (top 26)) [] [] (He.ga K "need_value") fd) : FnG false P wd K mg base 6 (He.ga K "need_value") fd ["value"] (spD K mg 1 m_need_value) := by
  have sc := sc_need_value
  refine fnG_of F sc fun cdv A fr s H E hcv room hgd tk => ?_
  exact (ds_one (ds_if (dt_not (dt_of (d_call (ok_is_value_form T) (room.mono (by decide)) (fun z => nomatch z) tk rfl (da_cons (d_var (pv 0)) da_nil) (cnt_cons cnt_nil)))) (ds_one (ds_raise rfl T.xb_BadValue room tk (d_var (pv 0)) rfl)) ds_nil))
theorem ok_need_value (T : Zx K mg base) : DefG false P wd K mg base "need_value" ["value"] 6 m_need_value := by
  obtain ⟨fd, F, gl⟩ := T.f_need_value
  exact .of F gl (fun _ _ _ _ _ _ us hl => match us, hl with | [_], _ => rfl) (fg_need_value T F)
theorem sc_compare : FnScope ["one", "other"] ["one", "other"] (defScope (top 27)) := ⟨by kernel_rfl, by kernel_rfl, by kernel_rfl, by decide +kernel, rfl, by decide +kernel, by decide +kernel⟩
theorem fg_compare (T : Zx K mg base) {fd : FuncData} (F : FunD K "compare" "compare" (defArgs (top 27)) (defBody (top 27)) (defScope (top 27)) [] [] (He.ga K "compare") fd) : FnG false P wd K mg base 7 (He.ga K "compare") fd ["one", "other"] (spD K mg 2 m_compare) := by
  have sc := sc_compare
  refine fnG_of F sc fun cdv A fr s H E hcv room hgd tk => ?_
  exact (ds_cons (ds_expr (d_call (ok_need_value T) (room.mono (by decide)) (fun z => nomatch z) tk rfl (da_cons (d_var (pv 0)) da_nil) (cnt_cons cnt_nil))) (ds_cons (ds_expr (d_call (ok_need_value T) (room.mono (by decide)) (fun z => nomatch z) tk rfl (da_cons (d_var (pv 1)) da_nil) (cnt_cons cnt_nil))) (ds_one (ds_ret (d_call (ok_compared T) (room.mono (by decide)) (fun z => nomatch z) tk rfl (da_cons (d_var (pv 0)) (da_cons (d_var (pv 1)) da_nil)) (cnt_cons (cnt_cons cnt_nil)))))))
theorem ok_compare (T : Zx K mg base) : DefG false P wd K mg base "compare" ["one", "other"] 7 m_compare := by
  obtain ⟨fd, F, gl⟩ := T.f_compare
  exact .of F gl (fun _ _ _ _ _ _ us hl => match us, hl with | [_, _], _ => rfl) (fg_compare T F)
theorem sc_times : FnScope ["one", "other", "value"] ["one", "other"] (defScope (top 28)) := ⟨by kernel_rfl, by kernel_rfl, by kernel_rfl, by decide +kernel, rfl, by decide +kernel, by decide +kernel⟩
theorem fg_times (T : Zx K mg base) {fd : FuncData} (F : FunD K "times" "times" (defArgs (top 28)) (defBody (top 28)) (defScope (top 28)) [] [] (He.ga K "times") fd) : FnG false P wd K mg base 7 (He.ga K "times") fd ["one", "other"] (spD K mg 2 m_times) := by
  have sc := sc_times
  refine fnG_of F sc fun cdv A fr s H E hcv room hgd tk => ?_
  exact (ds_cons (ds_expr (d_call (ok_need_value T) (room.mono (by decide)) (fun z => nomatch z) tk rfl (da_cons (d_var (pv 0)) da_nil) (cnt_cons cnt_nil))) (ds_cons (ds_expr (d_call (ok_need_value T) (room.mono (by decide)) (fun z => nomatch z) tk rfl (da_cons (d_var (pv 1)) da_nil) (cnt_cons cnt_nil))) (ds_cons (ds_if (dt_chain (o_eq (room64 room)) (o_eq (room64 room)) (d_ix x_ix (d_var (pv 0)) d_int) (d_ix x_ix (d_var (pv 1)) d_int) d_int) (ds_one (ds_ret (d_tup (da_star (d_call (ok_made T) (room.mono (by decide)) (fun z => nomatch z) tk rfl (da_cons (d_op o_mulI (d_ix x_ix (d_var (pv 0)) d_int) (d_ix x_ix (d_var (pv 1)) d_int)) (da_cons (d_op o_mulI (d_ix x_ix (d_var (pv 0)) d_int) (d_ix x_ix (d_var (pv 1)) d_int)) da_nil)) (cnt_cons (cnt_cons cnt_nil))) (da_cons d_int da_nil))))) ds_nil) (ds_cons (ds_for (passes_of rfl) rfl (di_seq (d_tup (da_cons (d_var (pv 0)) (da_cons (d_var (pv 1)) da_nil)))) (dg_name (pg_name sc.nd rfl (by first | exact Or.inl rfl | exact Or.inr rfl))) (ds_one (ds_if (dt_cmp o_le (d_ix x_ix (d_var (pv 2)) d_int) d_int) (ds_one (ds_raise rfl T.xb_BadValue room tk (d_var (pv 2)) rfl)) ds_nil))) (ds_one (ds_ret (d_call (ok_multiplied_roots T) (room.mono (by decide)) (fun z => nomatch z) tk rfl (da_cons (d_var (pv 0)) (da_cons (d_var (pv 1)) da_nil)) (cnt_cons (cnt_cons cnt_nil)))))))))
theorem ok_times (T : Zx K mg base) : DefG false P wd K mg base "times" ["one", "other"] 7 m_times := by
  obtain ⟨fd, F, gl⟩ := T.f_times
  exact .of F gl (fun _ _ _ _ _ _ us hl => match us, hl with | [_, _], _ => rfl) (fg_times T F)
theorem ok_times_k0 (T : Zx K mg base) : DefK false P wd K mg base "times" ["one", "other"] 7 m_times ["other", "one"] 0 [1, 0] := by
  obtain ⟨fd, F, gl⟩ := T.f_times
  exact .of F gl (fun _ _ _ _ _ _ us hl => match us, hl with | [_, _], _ => rfl) (by decide) (fg_times T F)
theorem sc_power : FnScope ["one", "num", "den"] ["one", "num", "den"] (defScope (top 29)) := ⟨by kernel_rfl, by kernel_rfl, by kernel_rfl, by decide +kernel, rfl, by decide +kernel, by decide +kernel⟩
theorem fg_power (T : Zx K mg base) {fd : FuncData} (F : FunD K "power" "power" (defArgs (top 29)) (defBody (top 29)) (defScope (top 29)) [] [] (He.ga K "power") fd) : FnG false P wd K mg base 7 (He.ga K "power") fd ["one", "num", "den"] (spD K mg 3 m_power) := by
  have sc := sc_power
  refine fnG_of F sc fun cdv A fr s H E hcv room hgd tk => ?_
  exact (ds_cons (ds_if (dt_not (dt_of (d_call (ok_is_positive_value T) (room.mono (by decide)) (fun z => nomatch z) tk rfl (da_cons (d_var (pv 0)) da_nil) (cnt_cons cnt_nil)))) (ds_one (ds_raise rfl T.xb_BadValue room tk (d_var (pv 0)) rfl)) ds_nil) (ds_cons (ds_if (dt_not (dt_of (d_call (ok_is_whole_between T) (room.mono (by decide)) (fun z => nomatch z) tk rfl (da_cons (d_var (pv 1)) (da_cons (d_un o_neg (d_gint rfl T.int_MOST_POWER)) (da_cons (d_gint rfl T.int_MOST_POWER) da_nil))) (cnt_cons (cnt_cons (cnt_cons cnt_nil)))))) (ds_one (ds_raise rfl T.xb_BadMany room tk (d_var (pv 1)) rfl)) ds_nil) (ds_cons (ds_if (dt_not (dt_of (d_call (ok_is_whole_between T) (room.mono (by decide)) (fun z => nomatch z) tk rfl (da_cons (d_var (pv 2)) (da_cons d_int (da_cons (d_gint rfl T.int_MOST_POWER) da_nil))) (cnt_cons (cnt_cons (cnt_cons cnt_nil)))))) (ds_one (ds_raise rfl T.xb_BadMany room tk (d_var (pv 2)) rfl)) ds_nil) (ds_one (ds_ret (d_call (ok_powered T) (room.mono (by decide)) (fun z => nomatch z) tk rfl (da_cons (d_var (pv 0)) (da_cons (d_call (ok_made T) (room.mono (by decide)) (fun z => nomatch z) tk rfl (da_cons (d_var (pv 1)) (da_cons (d_var (pv 2)) da_nil)) (cnt_cons (cnt_cons cnt_nil))) da_nil)) (cnt_cons (cnt_cons cnt_nil))))))))
theorem ok_power (T : Zx K mg base) : DefG false P wd K mg base "power" ["one", "num", "den"] 7 m_power := by
  obtain ⟨fd, F, gl⟩ := T.f_power
  exact .of F gl (fun _ _ _ _ _ _ us hl => match us, hl with | [_, _, _], _ => rfl) (fg_power T F)
theorem ok_power_k0 (T : Zx K mg base) : DefK false P wd K mg base "power" ["one", "num", "den"] 7 m_power ["den", "num", "one"] 0 [2, 1, 0] := by
  obtain ⟨fd, F, gl⟩ := T.f_power
  exact .of F gl (fun _ _ _ _ _ _ us hl => match us, hl with | [_, _, _], _ => rfl) (by decide) (fg_power T F)
theorem sc_plus : FnScope ["one", "other", "value"] ["one", "other"] (defScope (top 30)) := ⟨by kernel_rfl, by kernel_rfl, by kernel_rfl, by decide +kernel, rfl, by decide +kernel, by decide +kernel⟩
theorem fg_plus (T : Zx K mg base) {fd : FuncData} (F : FunD K "plus" "plus" (defArgs (top 30)) (defBody (top 30)) (defScope (top 30)) [] [] (He.ga K "plus") fd) : FnG false P wd K mg base 7 (He.ga K "plus") fd ["one", "other"] (spD K mg 2 m_plus) := by
  have sc := sc_plus
  refine fnG_of F sc fun cdv A fr s H E hcv room hgd tk => ?_
  exact (ds_cons (ds_for (passes_of rfl) rfl (di_seq (d_tup (da_cons (d_var (pv 0)) (da_cons (d_var (pv 1)) da_nil)))) (dg_name (pg_name sc.nd rfl (by first | exact Or.inl rfl | exact Or.inr rfl))) (ds_one (ds_if (dt_not (dt_of (d_call (ok_is_fraction_value T) (room.mono (by decide)) (fun z => nomatch z) tk rfl (da_cons (d_var (pv 2)) da_nil) (cnt_cons cnt_nil)))) (ds_one (ds_raise rfl T.xb_BadValue room tk (d_var (pv 2)) rfl)) ds_nil))) (ds_one (ds_ret (d_tup (da_star (d_call (ok_made T) (room.mono (by decide)) (fun z => nomatch z) tk rfl (da_cons (d_op o_add (d_op o_mulI (d_ix x_ix (d_var (pv 0)) d_int) (d_ix x_ix (d_var (pv 1)) d_int)) (d_op o_mulI (d_ix x_ix (d_var (pv 1)) d_int) (d_ix x_ix (d_var (pv 0)) d_int))) (da_cons (d_op o_mulI (d_ix x_ix (d_var (pv 0)) d_int) (d_ix x_ix (d_var (pv 1)) d_int)) da_nil)) (cnt_cons (cnt_cons cnt_nil))) (da_cons d_int da_nil))))))
theorem ok_plus (T : Zx K mg base) : DefG false P wd K mg base "plus" ["one", "other"] 7 m_plus := by
  obtain ⟨fd, F, gl⟩ := T.f_plus
  exact .of F gl (fun _ _ _ _ _ _ us hl => match us, hl with | [_, _], _ => rfl) (fg_plus T F)
theorem ok_plus_k0 (T : Zx K mg base) : DefK false P wd K mg base "plus" ["one", "other"] 7 m_plus ["other", "one"] 0 [1, 0] := by
  obtain ⟨fd, F, gl⟩ := T.f_plus
  exact .of F gl (fun _ _ _ _ _ _ us hl => match us, hl with | [_, _], _ => rfl) (by decide) (fg_plus T F)
theorem sc_law_deck : FnScope ["script", "mark", "blend", "cell"] ["script", "mark"] (defScope (top 32)) := ⟨by kernel_rfl, by kernel_rfl, by kernel_rfl, by decide +kernel, rfl, by decide +kernel, by decide +kernel⟩
theorem fg_law_deck (T : Zx K mg base) {fd : FuncData} (F : FunD K "_law_deck" "_law_deck" (defArgs (top 32)) (defBody (top 32)) (defScope (top 32)) [] [] (He.ga K "_law_deck") fd) : FnG false P wd K mg base 1 (He.ga K "_law_deck") fd ["script", "mark"] (spD K mg 2 m_law_deck) := by
  have sc := sc_law_deck
  refine fnG_of F sc fun cdv A fr s H E hcv room hgd tk => ?_
  exact (ds_cons (ds_set (i := 2) sc.nd rfl (by first | exact Or.inl rfl | exact Or.inr rfl) (d_var (pv 1))) (ds_cons (ds_for (passes_of rfl) rfl (di_seq (d_slice x_sl (d_var (pv 0)) do_none (do_some d_int))) (dg_name (pg_name sc.nd rfl (by first | exact Or.inl rfl | exact Or.inr rfl))) (ds_one (ds_set (i := 2) sc.nd rfl (by first | exact Or.inl rfl | exact Or.inr rfl) (d_op o_mod (d_callTy f_int rfl T.no_int rfl (da_cons (d_op o_add (d_op o_add (d_op o_mulI (d_var (pv 2)) d_int) (d_op o_mod (d_callTy f_int rfl T.no_int rfl (da_cons (d_var (pv 3)) da_nil)) d_int)) d_int) da_nil)) d_int)))) (ds_one (ds_ret (d_dict (dpp_cons (d_revO (d_lc (own := [("cell", 3)]) rfl sc.nd (di_seq (d_slice x_sl (d_var (pv 0)) do_none (do_some d_int))) (blkOk_by (by kernel_rfl)) (fun Xb hX => by (obtain ⟨s2, H2, C2, cl2, fp2, rfl⟩ := hX); exact (dg_name (pg_name sc.nd rfl (by first | exact Or.inl rfl | exact Or.inr rfl)))) (fun Xb hX => by (obtain ⟨s2, H2, C2, cl2, fp2, rfl⟩ := hX); exact dts_nil) (fun Xb hX => by (obtain ⟨s2, H2, C2, cl2, fp2, rfl⟩ := hX); exact (d_callTy f_int rfl T.no_int rfl (da_cons (d_var (pv 3)) da_nil))))) (dpp_cons (d_var (pv 2)) (dpp_cons d_int dpp_nil))))))))
theorem ok_law_deck (T : Zx K mg base) : DefG false P wd K mg base "_law_deck" ["script", "mark"] 1 m_law_deck := by
  obtain ⟨fd, F, gl⟩ := T.f_law_deck
  exact .of F gl (fun _ _ _ _ _ _ us hl => match us, hl with | [_, _], _ => rfl) (fg_law_deck T F)
theorem sc_law_draw : FnScope ["deck", "many", "number", "cell"] ["deck", "many"] (defScope (top 33)) := ⟨by kernel_rfl, by kernel_rfl, by kernel_rfl, by decide +kernel, rfl, by decide +kernel, by decide +kernel⟩
theorem fg_law_draw (T : Zx K mg base) {fd : FuncData} (F : FunD K "_law_draw" "_law_draw" (defArgs (top 33)) (defBody (top 33)) (defScope (top 33)) [] [] (He.ga K "_law_draw") fd) : FnG false P wd K mg base 1 (He.ga K "_law_draw") fd ["deck", "many"] (spD K mg 2 m_law_draw) := by
  have sc := sc_law_draw
  refine fnG_of F sc fun cdv A fr s H E hcv room hgd tk => ?_
  exact (ds_cons (ds_put (room1 room) (d_var (pv 0)) d_str (d_op o_add (d_dget (room1 room) (d_var (pv 0)) d_str) d_int)) (ds_cons (ds_set (i := 2) sc.nd rfl (by first | exact Or.inl rfl | exact Or.inr rfl) (d_op o_add (d_dget (room1 room) (d_var (pv 0)) d_str) (d_op o_mulI d_int (d_dget (room1 room) (d_var (pv 0)) d_str)))) (ds_cons (ds_if (dt_cmp (o_ne (room64 room)) (d_dget (room1 room) (d_var (pv 0)) d_str) (d_lst da_nil)) (ds_cons (ds_set (i := 3) sc.nd rfl (by first | exact Or.inl rfl | exact Or.inr rfl) (d_meth0 PySem.F.plainAttrs_list PySem.F.slot_list_pop PySem.F.type_list_pop m_pop (d_dget (room1 room) (d_var (pv 0)) d_str))) (ds_cons (ds_if (dt_cmp o_ge (d_var (pv 3)) (d_op o_pow d_int d_int)) (ds_cons (ds_expr (d_meth PySem.F.plainAttrs_list PySem.F.slot_list_append PySem.F.type_list_append m_append (d_dget (room1 room) (d_var (pv 0)) d_str) (da_cons (d_op o_div (d_var (pv 3)) (d_callB (f_max rfl) rfl T.no_max rfl (da_cons d_int (da_cons (d_var (pv 1)) da_nil)))) da_nil))) (ds_one (ds_ret (d_op o_mod (d_callTy f_int rfl T.no_int rfl (da_cons (d_var (pv 3)) da_nil)) (d_var (pv 1)))))) ds_nil) (ds_one (ds_set (i := 2) sc.nd rfl (by first | exact Or.inl rfl | exact Or.inr rfl) (d_op o_add (d_var (pv 2)) (d_op o_mod (d_callTy f_int rfl T.no_int rfl (da_cons (d_var (pv 3)) da_nil)) d_int)))))) ds_nil) (ds_cons (ds_set (i := 2) sc.nd rfl (by first | exact Or.inl rfl | exact Or.inr rfl) (d_op o_mod (d_callTy f_int rfl T.no_int rfl (da_cons (d_op o_add (d_op o_mulI (d_var (pv 2)) d_int) d_int) da_nil)) d_int)) (ds_cons (ds_set (i := 2) sc.nd rfl (by first | exact Or.inl rfl | exact Or.inr rfl) (d_op o_mod (d_callTy f_int rfl T.no_int rfl (da_cons (d_op o_add (d_op o_add (d_op o_mulI (d_var (pv 2)) (d_var (pv 2))) (d_op o_mulI d_int (d_dget (room1 room) (d_var (pv 0)) d_str))) d_int) da_nil)) d_int)) (ds_one (ds_ret (d_op o_mod (d_callTy f_int rfl T.no_int rfl (da_cons (d_op o_div (d_op o_mod (d_callTy f_int rfl T.no_int rfl (da_cons (d_op o_mulI (d_var (pv 2)) d_int) da_nil)) d_int) d_int) da_nil)) (d_var (pv 1))))))))))
theorem ok_law_draw (T : Zx K mg base) : DefG false P wd K mg base "_law_draw" ["deck", "many"] 1 m_law_draw := by
  obtain ⟨fd, F, gl⟩ := T.f_law_draw
  exact .of F gl (fun _ _ _ _ _ _ us hl => match us, hl with | [_, _], _ => rfl) (fg_law_draw T F)
theorem sc_law_pick : FnScope ["deck", "some"] ["deck", "some"] (defScope (top 34)) := ⟨by kernel_rfl, by kernel_rfl, by kernel_rfl, by decide +kernel, rfl, by decide +kernel, by decide +kernel⟩
theorem fg_law_pick (T : Zx K mg base) {fd : FuncData} (F : FunD K "_law_pick" "_law_pick" (defArgs (top 34)) (defBody (top 34)) (defScope (top 34)) [] [] (He.ga K "_law_pick") fd) : FnG false P wd K mg base 2 (He.ga K "_law_pick") fd ["deck", "some"] (spD K mg 2 m_law_pick) := by
  have sc := sc_law_pick
  refine fnG_of F sc fun cdv A fr s H E hcv room hgd tk => ?_
  exact (ds_one (ds_ret (d_ix x_ix (d_var (pv 1)) (d_call (ok_law_draw T) (room.mono (by decide)) (fun z => nomatch z) tk rfl (da_cons (d_var (pv 0)) (da_cons (d_callB f_len rfl T.no_len rfl (da_cons (d_var (pv 1)) da_nil)) da_nil)) (cnt_cons (cnt_cons cnt_nil))))))
theorem ok_law_pick (T : Zx K mg base) : DefG false P wd K mg base "_law_pick" ["deck", "some"] 2 m_law_pick := by
  obtain ⟨fd, F, gl⟩ := T.f_law_pick
  exact .of F gl (fun _ _ _ _ _ _ us hl => match us, hl with | [_, _], _ => rfl) (fg_law_pick T F)
theorem sc_law_same : FnScope ["told", "due"] ["told", "due"] (defScope (top 35)) := ⟨by kernel_rfl, by kernel_rfl, by kernel_rfl, by decide +kernel, rfl, by decide +kernel, by decide +kernel⟩
theorem fg_law_same (T : Zx K mg base) {fd : FuncData} (F : FunD K "_law_same" "_law_same" (defArgs (top 35)) (defBody (top 35)) (defScope (top 35)) [] [] (He.ga K "_law_same") fd) : FnG true P wd K mg base 1 (He.ga K "_law_same") fd ["told", "due"] (spD K mg 2 m_law_same) := by
  have sc := sc_law_same
  refine fnG_of F sc fun cdv A fr s H E hcv room hgd tk => ?_
  exact (ds_one (ds_ret (d_cmp (o_eq (room64 room)) (d_callB (f_repr (hgd rfl) (room64 room)) rfl T.no_repr rfl (da_cons (d_var (pv 0)) da_nil)) (d_callB (f_repr (hgd rfl) (room64 room)) rfl T.no_repr rfl (da_cons (d_var (pv 1)) da_nil)))))
theorem ok_law_same (T : Zx K mg base) : DefG true P wd K mg base "_law_same" ["told", "due"] 1 m_law_same := by
  obtain ⟨fd, F, gl⟩ := T.f_law_same
  exact .of F gl (fun _ _ _ _ _ _ us hl => match us, hl with | [_, _], _ => rfl) (fg_law_same T F)
theorem sc_law_gcd : FnScope ["one", "other"] ["one", "other"] (defScope (top 37)) := ⟨by kernel_rfl, by kernel_rfl, by kernel_rfl, by decide +kernel, rfl, by decide +kernel, by decide +kernel⟩
theorem fg_law_gcd (T : Zx K mg base) {fd : FuncData} (F : FunD K "_law_gcd" "_law_gcd" (defArgs (top 37)) (defBody (top 37)) (defScope (top 37)) [] [] (He.ga K "_law_gcd") fd) : FnG false P wd K mg base 1 (He.ga K "_law_gcd") fd ["one", "other"] (spD K mg 2 m_law_gcd) := by
  have sc := sc_law_gcd
  refine fnG_of F sc fun cdv A fr s H E hcv room hgd tk => ?_
  exact (ds_cons (ds_par (i := 0) (j := 1) rfl sc.nd rfl rfl (by decide) rfl rfl (da_cons (d_callB f_abs rfl T.no_abs rfl (da_cons (d_var (pv 0)) da_nil)) (da_cons (d_callB f_abs rfl T.no_abs rfl (da_cons (d_var (pv 1)) da_nil)) da_nil))) (ds_cons (ds_while 100000 (passes_of rfl) (dt_cmp (o_ne (room64 room)) (d_var (pv 1)) d_int) (ds_one (ds_par (i := 0) (j := 1) rfl sc.nd rfl rfl (by decide) rfl rfl (da_cons (d_var (pv 1)) (da_cons (d_op o_mod (d_callTy f_int rfl T.no_int rfl (da_cons (d_var (pv 0)) da_nil)) (d_var (pv 1))) da_nil))))) (ds_one (ds_ret (d_var (pv 0))))))
theorem ok_law_gcd (T : Zx K mg base) : DefG false P wd K mg base "_law_gcd" ["one", "other"] 1 m_law_gcd := by
  obtain ⟨fd, F, gl⟩ := T.f_law_gcd
  exact .of F gl (fun _ _ _ _ _ _ us hl => match us, hl with | [_, _], _ => rfl) (fg_law_gcd T F)
theorem sc_law_low : FnScope ["n", "d", "common"] ["n", "d"] (defScope (top 38)) := ⟨by kernel_rfl, by kernel_rfl, by kernel_rfl, by decide +kernel, rfl, by decide +kernel, by decide +kernel⟩
theorem fg_law_low (T : Zx K mg base) {fd : FuncData} (F : FunD K "_law_low" "_law_low" (defArgs (top 38)) (defBody (top 38)) (defScope (top 38)) [] [] (He.ga K "_law_low") fd) : FnG false P wd K mg base 2 (He.ga K "_law_low") fd ["n", "d"] (spD K mg 2 m_law_low) := by
  have sc := sc_law_low
  refine fnG_of F sc fun cdv A fr s H E hcv room hgd tk => ?_
  exact (ds_cons (ds_set (i := 2) sc.nd rfl (by first | exact Or.inl rfl | exact Or.inr rfl) (d_if (dt_cmp o_gt (d_var (pv 1)) d_int) (d_call (ok_law_gcd T) (room.mono (by decide)) (fun z => nomatch z) tk rfl (da_cons (d_var (pv 0)) (da_cons (d_var (pv 1)) da_nil)) (cnt_cons (cnt_cons cnt_nil))) (d_un o_neg (d_call (ok_law_gcd T) (room.mono (by decide)) (fun z => nomatch z) tk rfl (da_cons (d_var (pv 0)) (da_cons (d_var (pv 1)) da_nil)) (cnt_cons (cnt_cons cnt_nil)))))) (ds_one (ds_ret (d_tup (da_cons (d_op o_div (d_var (pv 0)) (d_var (pv 2))) (da_cons (d_op o_div (d_var (pv 1)) (d_var (pv 2))) da_nil))))))
theorem ok_law_low (T : Zx K mg base) : DefG false P wd K mg base "_law_low" ["n", "d"] 2 m_law_low := by
  obtain ⟨fd, F, gl⟩ := T.f_law_low
  exact .of F gl (fun _ _ _ _ _ _ us hl => match us, hl with | [_, _], _ => rfl) (fg_law_low T F)
theorem sc_law_fraction : FnScope ["deck", "most", "dens"] ["deck", "most", "dens"] (defScope (top 36)) := ⟨by kernel_rfl, by kernel_rfl, by kernel_rfl, by decide +kernel, rfl, by decide +kernel, by decide +kernel⟩
theorem fg_law_fraction (T : Zx K mg base) {fd : FuncData} (F : FunD K "_law_fraction" "_law_fraction" (defArgs (top 36)) (defBody (top 36)) (defScope (top 36)) [] [] (He.ga K "_law_fraction") fd) : FnG false P wd K mg base 3 (He.ga K "_law_fraction") fd ["deck", "most", "dens"] (spD K mg 3 m_law_fraction) := by
  have sc := sc_law_fraction
  refine fnG_of F sc fun cdv A fr s H E hcv room hgd tk => ?_
  exact (ds_one (ds_ret (d_call (ok_law_low T) (room.mono (by decide)) (fun z => nomatch z) tk rfl (da_cons (d_op o_sub (d_call (ok_law_draw T) (room.mono (by decide)) (fun z => nomatch z) tk rfl (da_cons (d_var (pv 0)) (da_cons (d_op o_add (d_op o_mulI d_int (d_var (pv 1))) d_int) da_nil)) (cnt_cons (cnt_cons cnt_nil))) (d_var (pv 1))) (da_cons (d_call (ok_law_pick T) (room.mono (by decide)) (fun z => nomatch z) tk rfl (da_cons (d_var (pv 0)) (da_cons (d_var (pv 2)) da_nil)) (cnt_cons (cnt_cons cnt_nil))) da_nil)) (cnt_cons (cnt_cons cnt_nil)))))
theorem ok_law_fraction (T : Zx K mg base) : DefG false P wd K mg base "_law_fraction" ["deck", "most", "dens"] 3 m_law_fraction := by
  obtain ⟨fd, F, gl⟩ := T.f_law_fraction
  exact .of F gl (fun _ _ _ _ _ _ us hl => match us, hl with | [_, _, _], _ => rfl) (fg_law_fraction T F)
theorem sc_law_add : FnScope ["one", "other"] ["one", "other"] (defScope (top 39)) := ⟨by kernel_rfl, by kernel_rfl, by kernel_rfl, by decide +kernel, rfl, by decide +kernel, by decide +kernel⟩
theorem fg_law_add (T : Zx K mg base) {fd : FuncData} (F : FunD K "_law_add" "_law_add" (defArgs (top 39)) (defBody (top 39)) (defScope (top 39)) [] [] (He.ga K "_law_add") fd) : FnG false P wd K mg base 3 (He.ga K "_law_add") fd ["one", "other"] (spD K mg 2 m_law_add) := by
  have sc := sc_law_add
  refine fnG_of F sc fun cdv A fr s H E hcv room hgd tk => ?_
  exact (ds_one (ds_ret (d_call (ok_law_low T) (room.mono (by decide)) (fun z => nomatch z) tk rfl (da_cons (d_op o_add (d_op o_mulI (d_ix x_ix (d_var (pv 0)) d_int) (d_ix x_ix (d_var (pv 1)) d_int)) (d_op o_mulI (d_ix x_ix (d_var (pv 1)) d_int) (d_ix x_ix (d_var (pv 0)) d_int))) (da_cons (d_op o_mulI (d_ix x_ix (d_var (pv 0)) d_int) (d_ix x_ix (d_var (pv 1)) d_int)) da_nil)) (cnt_cons (cnt_cons cnt_nil)))))
theorem ok_law_add (T : Zx K mg base) : DefG false P wd K mg base "_law_add" ["one", "other"] 3 m_law_add := by
  obtain ⟨fd, F, gl⟩ := T.f_law_add
  exact .of F gl (fun _ _ _ _ _ _ us hl => match us, hl with | [_, _], _ => rfl) (fg_law_add T F)
theorem sc_law_mul : FnScope ["one", "other"] ["one", "other"] (defScope (top 40)) := ⟨by kernel_rfl, by kernel_rfl, by kernel_rfl, by decide +kernel, rfl, by decide +kernel, by decide +kernel⟩
theorem fg_law_mul (T : Zx K mg base) {fd : FuncData} (F : FunD K "_law_mul" "_law_mul" (defArgs (top 40)) (defBody (top 40)) (defScope (top 40)) [] [] (He.ga K "_law_mul") fd) : FnG false P wd K mg base 3 (He.ga K "_law_mul") fd ["one", "other"] (spD K mg 2 m_law_mul) := by
  have sc := sc_law_mul
  refine fnG_of F sc fun cdv A fr s H E hcv room hgd tk => ?_
  exact (ds_one (ds_ret (d_call (ok_law_low T) (room.mono (by decide)) (fun z => nomatch z) tk rfl (da_cons (d_op o_mulI (d_ix x_ix (d_var (pv 0)) d_int) (d_ix x_ix (d_var (pv 1)) d_int)) (da_cons (d_op o_mulI (d_ix x_ix (d_var (pv 0)) d_int) (d_ix x_ix (d_var (pv 1)) d_int)) da_nil)) (cnt_cons (cnt_cons cnt_nil)))))
theorem ok_law_mul (T : Zx K mg base) : DefG false P wd K mg base "_law_mul" ["one", "other"] 3 m_law_mul := by
  obtain ⟨fd, F, gl⟩ := T.f_law_mul
  exact .of F gl (fun _ _ _ _ _ _ us hl => match us, hl with | [_, _], _ => rfl) (fg_law_mul T F)
theorem sc_law_pow : FnScope ["n", "e", "found"] ["n", "e"] (defScope (top 41)) := ⟨by kernel_rfl, by kernel_rfl, by kernel_rfl, by decide +kernel, rfl, by decide +kernel, by decide +kernel⟩
theorem fg_law_pow (T : Zx K mg base) {fd : FuncData} (F : FunD K "_law_pow" "_law_pow" (defArgs (top 41)) (defBody (top 41)) (defScope (top 41)) [] [] (He.ga K "_law_pow") fd) : FnG false P wd K mg base 1 (He.ga K "_law_pow") fd ["n", "e"] (spD K mg 2 m_law_pow) := by
  have sc := sc_law_pow
  refine fnG_of F sc fun cdv A fr s H E hcv room hgd tk => ?_
  exact (ds_cons (ds_par (i := 2) (j := 1) rfl sc.nd rfl rfl (by decide) rfl rfl (da_cons d_int (da_cons (d_callTy f_int rfl T.no_int rfl (da_cons (d_var (pv 1)) da_nil)) da_nil))) (ds_cons (ds_while 100000 (passes_of rfl) (dt_cmp o_gt (d_var (pv 1)) d_int) (ds_one (ds_par3 (i := 2) (j := 0) (l := 1) rfl sc.nd rfl rfl rfl (by decide) (by decide) (by decide) rfl rfl rfl (da_cons (d_if (dt_cmp (o_eq (room64 room)) (d_op o_and (d_var (pv 1)) d_int) d_int) (d_op o_mulI (d_var (pv 2)) (d_var (pv 0))) (d_var (pv 2))) (da_cons (d_if (dt_cmp o_gt (d_var (pv 1)) d_int) (d_op o_mulI (d_var (pv 0)) (d_var (pv 0))) (d_var (pv 0))) (da_cons (d_op o_shr (d_var (pv 1)) d_int) da_nil)))))) (ds_one (ds_ret (d_var (pv 2))))))
theorem ok_law_pow (T : Zx K mg base) : DefG false P wd K mg base "_law_pow" ["n", "e"] 1 m_law_pow := by
  obtain ⟨fd, F, gl⟩ := T.f_law_pow
  exact .of F gl (fun _ _ _ _ _ _ us hl => match us, hl with | [_, _], _ => rfl) (fg_law_pow T F)
theorem sc_law_int_root : FnScope ["n", "p", "found", "k"] ["n", "p"] (defScope (top 42)) := ⟨by kernel_rfl, by kernel_rfl, by kernel_rfl, by decide +kernel, rfl, by decide +kernel, by decide +kernel⟩
theorem fg_law_int_root (T : Zx K mg base) {fd : FuncData} (F : FunD K "_law_int_root" "_law_int_root" (defArgs (top 42)) (defBody (top 42)) (defScope (top 42)) [] [] (He.ga K "_law_int_root") fd) : FnG false P wd K mg base 2 (He.ga K "_law_int_root") fd ["n", "p"] (spD K mg 2 m_law_int_root) := by
  have sc := sc_law_int_root
  refine fnG_of F sc fun cdv A fr s H E hcv room hgd tk => ?_
  exact (ds_cons (ds_set (i := 2) sc.nd rfl (by first | exact Or.inl rfl | exact Or.inr rfl) d_int) (ds_cons (ds_for (passes_of rfl) rfl (di_seq (d_rev (d_listRg rfl rfl T.no_list rfl T.no_range (d_op o_add (d_op o_div (d_bits (d_var (pv 0))) (d_var (pv 1))) d_int)))) (dg_name (pg_name sc.nd rfl (by first | exact Or.inl rfl | exact Or.inr rfl))) (ds_one (ds_if (dt_cmp o_le (d_call (ok_law_pow T) (room.mono (by decide)) (fun z => nomatch z) tk rfl (da_cons (d_op o_or (d_var (pv 2)) (d_op o_shl d_int (d_var (pv 3)))) (da_cons (d_var (pv 1)) da_nil)) (cnt_cons (cnt_cons cnt_nil))) (d_var (pv 0))) (ds_one (ds_set (i := 2) sc.nd rfl (by first | exact Or.inl rfl | exact Or.inr rfl) (d_op o_or (d_var (pv 2)) (d_op o_shl d_int (d_var (pv 3)))))) ds_nil))) (ds_one (ds_ret (d_if (dt_cmp (o_eq (room64 room)) (d_call (ok_law_pow T) (room.mono (by decide)) (fun z => nomatch z) tk rfl (da_cons (d_var (pv 2)) (da_cons (d_var (pv 1)) da_nil)) (cnt_cons (cnt_cons cnt_nil))) (d_var (pv 0))) (d_var (pv 2)) (d_un o_neg d_int))))))
theorem ok_law_int_root (T : Zx K mg base) : DefG false P wd K mg base "_law_int_root" ["n", "p"] 2 m_law_int_root := by
  obtain ⟨fd, F, gl⟩ := T.f_law_int_root
  exact .of F gl (fun _ _ _ _ _ _ us hl => match us, hl with | [_, _], _ => rfl) (fg_law_int_root T F)
theorem sc_law_value : FnScope ["n", "d", "k", "p", "go", "one", "other"] ["n", "d", "k"] (defScope (top 43)) := ⟨by kernel_rfl, by kernel_rfl, by kernel_rfl, by decide +kernel, rfl, by decide +kernel, by decide +kernel⟩
theorem fg_law_value (T : Zx K mg base) {fd : FuncData} (F : FunD K "_law_value" "_law_value" (defArgs (top 43)) (defBody (top 43)) (defScope (top 43)) [] [] (He.ga K "_law_value") fd) : FnG false P wd K mg base 3 (He.ga K "_law_value") fd ["n", "d", "k"] (spD K mg 3 m_law_value) := by
  have sc := sc_law_value
  refine fnG_of F sc fun cdv A fr s H E hcv room hgd tk => ?_
  exact (ds_cons (ds_asg (d_call (ok_law_low T) (room.mono (by decide)) (fun z => nomatch z) tk rfl (da_cons (d_var (pv 0)) (da_cons (d_var (pv 1)) da_nil)) (cnt_cons (cnt_cons cnt_nil))) (dg_tup rfl (dg_cons (dg_name (pg_name sc.nd rfl (by first | exact Or.inl rfl | exact Or.inr rfl))) (dg_cons (dg_name (pg_name sc.nd rfl (by first | exact Or.inl rfl | exact Or.inr rfl))) dg_nil)))) (ds_cons (ds_if (dt_w (dw_and (dt_cmp (o_eq (room64 room)) (d_var (pv 0)) d_int) (dw_and1 (dt_cmp (o_eq (room64 room)) (d_var (pv 1)) d_int)))) (ds_one (ds_ret (d_tup (da_cons d_int (da_cons d_int (da_cons d_int da_nil)))))) ds_nil) (ds_cons (ds_for (passes_of rfl) rfl (di_range2 rfl T.no_range (da_cons d_int (da_cons (d_op o_add (d_callB (f_min rfl) rfl T.no_min rfl (da_cons (d_var (pv 2)) (da_cons (d_callB (f_max rfl) rfl T.no_max rfl (da_cons (d_bits (d_callB f_abs rfl T.no_abs rfl (da_cons (d_var (pv 0)) da_nil))) (da_cons (d_bits (d_var (pv 1))) da_nil))) da_nil))) d_int) da_nil))) (dg_name (pg_name sc.nd rfl (by first | exact Or.inl rfl | exact Or.inr rfl))) (ds_one (ds_for (passes_of rfl) rfl (di_range1 rfl T.no_range (da_cons d_int da_nil)) (dg_name (pg_name sc.nd rfl (by first | exact Or.inl rfl | exact Or.inr rfl))) (ds_cons (ds_asg (d_if (dt_cmp (o_eq (room64 room)) (d_op o_mod (d_callTy f_int rfl T.no_int rfl (da_cons (d_var (pv 2)) da_nil)) (d_var (pv 3))) d_int) (d_tup (da_cons (d_call (ok_law_int_root T) (room.mono (by decide)) (fun z => nomatch z) tk rfl (da_cons (d_var (pv 0)) (da_cons (d_var (pv 3)) da_nil)) (cnt_cons (cnt_cons cnt_nil))) (da_cons (d_call (ok_law_int_root T) (room.mono (by decide)) (fun z => nomatch z) tk rfl (da_cons (d_var (pv 1)) (da_cons (d_var (pv 3)) da_nil)) (cnt_cons (cnt_cons cnt_nil))) da_nil))) (d_tup (da_cons (d_un o_neg d_int) (da_cons (d_un o_neg d_int) da_nil)))) (dg_tup rfl (dg_cons (dg_name (pg_name sc.nd rfl (by first | exact Or.inl rfl | exact Or.inr rfl))) (dg_cons (dg_name (pg_name sc.nd rfl (by first | exact Or.inl rfl | exact Or.inr rfl))) dg_nil)))) (ds_one (ds_if (dt_w (dw_and (dt_cmp o_gt (d_var (pv 5)) d_int) (dw_and1 (dt_cmp o_gt (d_var (pv 6)) d_int)))) (ds_one (ds_par3 (i := 0) (j := 1) (l := 2) rfl sc.nd rfl rfl rfl (by decide) (by decide) (by decide) rfl rfl rfl (da_cons (d_var (pv 5)) (da_cons (d_var (pv 6)) (da_cons (d_op o_div (d_var (pv 2)) (d_var (pv 3))) da_nil))))) ds_nil)))))) (ds_one (ds_ret (d_tup (da_cons (d_var (pv 0)) (da_cons (d_var (pv 1)) (da_cons (d_callTy f_int rfl T.no_int rfl (da_cons (d_var (pv 2)) da_nil)) da_nil)))))))))
theorem ok_law_value (T : Zx K mg base) : DefG false P wd K mg base "_law_value" ["n", "d", "k"] 3 m_law_value := by
  obtain ⟨fd, F, gl⟩ := T.f_law_value
  exact .of F gl (fun _ _ _ _ _ _ us hl => match us, hl with | [_, _, _], _ => rfl) (fg_law_value T F)
theorem sc_law_multiple : FnScope ["some", "found", "it"] ["some"] (defScope (top 44)) := ⟨by kernel_rfl, by kernel_rfl, by kernel_rfl, by decide +kernel, rfl, by decide +kernel, by decide +kernel⟩
theorem fg_law_multiple (T : Zx K mg base) {fd : FuncData} (F : FunD K "_law_multiple" "_law_multiple" (defArgs (top 44)) (defBody (top 44)) (defScope (top 44)) [] [] (He.ga K "_law_multiple") fd) : FnG false P wd K mg base 2 (He.ga K "_law_multiple") fd ["some"] (spD K mg 1 m_law_multiple) := by
  have sc := sc_law_multiple
  refine fnG_of F sc fun cdv A fr s H E hcv room hgd tk => ?_
  exact (ds_cons (ds_set (i := 1) sc.nd rfl (by first | exact Or.inl rfl | exact Or.inr rfl) d_int) (ds_cons (ds_for (passes_of rfl) rfl (di_seq (d_var (pv 0))) (dg_name (pg_name sc.nd rfl (by first | exact Or.inl rfl | exact Or.inr rfl))) (ds_one (ds_set (i := 1) sc.nd rfl (by first | exact Or.inl rfl | exact Or.inr rfl) (d_op o_div (d_op o_mulI (d_var (pv 1)) (d_var (pv 2))) (d_call (ok_law_gcd T) (room.mono (by decide)) (fun z => nomatch z) tk rfl (da_cons (d_var (pv 1)) (da_cons (d_var (pv 2)) da_nil)) (cnt_cons (cnt_cons cnt_nil))))))) (ds_one (ds_ret (d_var (pv 1))))))
theorem ok_law_multiple (T : Zx K mg base) : DefG false P wd K mg base "_law_multiple" ["some"] 2 m_law_multiple := by
  obtain ⟨fd, F, gl⟩ := T.f_law_multiple
  exact .of F gl (fun _ _ _ _ _ _ us hl => match us, hl with | [_], _ => rfl) (fg_law_multiple T F)
theorem sc_law_times : FnScope ["one", "other", "whole", "n", "d"] ["one", "other"] (defScope (top 45)) := ⟨by kernel_rfl, by kernel_rfl, by kernel_rfl, by decide +kernel, rfl, by decide +kernel, by decide +kernel⟩
theorem fg_law_times (T : Zx K mg base) {fd : FuncData} (F : FunD K "_law_times" "_law_times" (defArgs (top 45)) (defBody (top 45)) (defScope (top 45)) [] [] (He.ga K "_law_times") fd) : FnG false P wd K mg base 4 (He.ga K "_law_times") fd ["one", "other"] (spD K mg 2 m_law_times) := by
  have sc := sc_law_times
  refine fnG_of F sc fun cdv A fr s H E hcv room hgd tk => ?_
  exact (ds_cons (ds_if (dt_w (dw_and (dt_cmp (o_eq (room64 room)) (d_ix x_ix (d_var (pv 0)) d_int) d_int) (dw_and1 (dt_cmp (o_eq (room64 room)) (d_ix x_ix (d_var (pv 1)) d_int) d_int)))) (ds_one (ds_ret (d_op o_add (d_call (ok_law_mul T) (room.mono (by decide)) (fun z => nomatch z) tk rfl (da_cons (d_slice x_sl (d_var (pv 0)) do_none (do_some d_int)) (da_cons (d_slice x_sl (d_var (pv 1)) do_none (do_some d_int)) da_nil)) (cnt_cons (cnt_cons cnt_nil))) (d_tup (da_cons d_int da_nil))))) ds_nil) (ds_cons (ds_set (i := 2) sc.nd rfl (by first | exact Or.inl rfl | exact Or.inr rfl) (d_call (ok_law_multiple T) (room.mono (by decide)) (fun z => nomatch z) tk rfl (da_cons (d_lst (da_cons (d_ix x_ix (d_var (pv 0)) d_int) (da_cons (d_ix x_ix (d_var (pv 1)) d_int) da_nil))) da_nil) (cnt_cons cnt_nil))) (ds_cons (ds_par (i := 3) (j := 4) rfl sc.nd rfl rfl (by decide) rfl rfl (da_cons (d_op o_mulI (d_call (ok_law_pow T) (room.mono (by decide)) (fun z => nomatch z) tk rfl (da_cons (d_ix x_ix (d_var (pv 0)) d_int) (da_cons (d_op o_div (d_var (pv 2)) (d_ix x_ix (d_var (pv 0)) d_int)) da_nil)) (cnt_cons (cnt_cons cnt_nil))) (d_call (ok_law_pow T) (room.mono (by decide)) (fun z => nomatch z) tk rfl (da_cons (d_ix x_ix (d_var (pv 1)) d_int) (da_cons (d_op o_div (d_var (pv 2)) (d_ix x_ix (d_var (pv 1)) d_int)) da_nil)) (cnt_cons (cnt_cons cnt_nil)))) (da_cons (d_op o_mulI (d_call (ok_law_pow T) (room.mono (by decide)) (fun z => nomatch z) tk rfl (da_cons (d_ix x_ix (d_var (pv 0)) d_int) (da_cons (d_op o_div (d_var (pv 2)) (d_ix x_ix (d_var (pv 0)) d_int)) da_nil)) (cnt_cons (cnt_cons cnt_nil))) (d_call (ok_law_pow T) (room.mono (by decide)) (fun z => nomatch z) tk rfl (da_cons (d_ix x_ix (d_var (pv 1)) d_int) (da_cons (d_op o_div (d_var (pv 2)) (d_ix x_ix (d_var (pv 1)) d_int)) da_nil)) (cnt_cons (cnt_cons cnt_nil)))) da_nil))) (ds_one (ds_ret (d_call (ok_law_value T) (room.mono (by decide)) (fun z => nomatch z) tk rfl (da_cons (d_var (pv 3)) (da_cons (d_var (pv 4)) (da_cons (d_var (pv 2)) da_nil))) (cnt_cons (cnt_cons (cnt_cons cnt_nil)))))))))
theorem ok_law_times (T : Zx K mg base) : DefG false P wd K mg base "_law_times" ["one", "other"] 4 m_law_times := by
  obtain ⟨fd, F, gl⟩ := T.f_law_times
  exact .of F gl (fun _ _ _ _ _ _ us hl => match us, hl with | [_, _], _ => rfl) (fg_law_times T F)
theorem sc_law_power : FnScope ["one", "p", "q", "n", "d"] ["one", "p", "q"] (defScope (top 46)) := ⟨by kernel_rfl, by kernel_rfl, by kernel_rfl, by decide +kernel, rfl, by decide +kernel, by decide +kernel⟩
theorem fg_law_power (T : Zx K mg base) {fd : FuncData} (F : FunD K "_law_power" "_law_power" (defArgs (top 46)) (defBody (top 46)) (defScope (top 46)) [] [] (He.ga K "_law_power") fd) : FnG false P wd K mg base 4 (He.ga K "_law_power") fd ["one", "p", "q"] (spD K mg 3 m_law_power) := by
  have sc := sc_law_power
  refine fnG_of F sc fun cdv A fr s H E hcv room hgd tk => ?_
  exact (ds_cons (ds_asg (d_if (dt_cmp o_ge (d_var (pv 1)) d_int) (d_tup (da_cons (d_ix x_ix (d_var (pv 0)) d_int) (da_cons (d_ix x_ix (d_var (pv 0)) d_int) da_nil))) (d_tup (da_cons (d_ix x_ix (d_var (pv 0)) d_int) (da_cons (d_ix x_ix (d_var (pv 0)) d_int) da_nil)))) (dg_tup rfl (dg_cons (dg_name (pg_name sc.nd rfl (by first | exact Or.inl rfl | exact Or.inr rfl))) (dg_cons (dg_name (pg_name sc.nd rfl (by first | exact Or.inl rfl | exact Or.inr rfl))) dg_nil)))) (ds_one (ds_ret (d_if (dt_cmp (o_ne (room64 room)) (d_var (pv 1)) d_int) (d_call (ok_law_value T) (room.mono (by decide)) (fun z => nomatch z) tk rfl (da_cons (d_call (ok_law_pow T) (room.mono (by decide)) (fun z => nomatch z) tk rfl (da_cons (d_var (pv 3)) (da_cons (d_callB f_abs rfl T.no_abs rfl (da_cons (d_var (pv 1)) da_nil)) da_nil)) (cnt_cons (cnt_cons cnt_nil))) (da_cons (d_call (ok_law_pow T) (room.mono (by decide)) (fun z => nomatch z) tk rfl (da_cons (d_var (pv 4)) (da_cons (d_callB f_abs rfl T.no_abs rfl (da_cons (d_var (pv 1)) da_nil)) da_nil)) (cnt_cons (cnt_cons cnt_nil))) (da_cons (d_op o_mulI (d_ix x_ix (d_var (pv 0)) d_int) (d_var (pv 2))) da_nil))) (cnt_cons (cnt_cons (cnt_cons cnt_nil)))) (d_tup (da_cons d_int (da_cons d_int (da_cons d_int da_nil))))))))
theorem ok_law_power (T : Zx K mg base) : DefG false P wd K mg base "_law_power" ["one", "p", "q"] 4 m_law_power := by
  obtain ⟨fd, F, gl⟩ := T.f_law_power
  exact .of F gl (fun _ _ _ _ _ _ us hl => match us, hl with | [_, _, _], _ => rfl) (fg_law_power T F)
theorem h_some {nm : Str} {d0 d : D} (h : h_law_refused ⟨nm, d0⟩ = some d) : (nm = "BadValue" ∧ d = .tup [.str "value", d0]) ∨ (nm = "BadMany" ∧ d = .tup [.str "many", d0]) := by
  unfold h_law_refused at h
  by_cases e : nm = "BadValue"
  · rw [if_pos e] at h
    exact .inl ⟨e, (Option.some.inj h).symm⟩
  · rw [if_neg e] at h
    by_cases e : nm = "BadMany"
    · rw [if_pos e] at h
      exact .inr ⟨e, (Option.some.inj h).symm⟩
    · rw [if_neg e] at h
      cases h
open Classical in
theorem run_refused (L : D) (th : Mem → Res D) (M : Mem) : runB 2 (sTryV 1 h_law_refused (sRet (eTup (aCons (eC (.str "told")) (aCons (eThunk 0 L th) aNil))))) [L] M = g_law_refused th M := by
  have e0 : ∀ M, eThunk 0 L th [some L, none] M = th M := fun M => if_pos rfl
  have e1 : ([some L] ++ List.replicate (2 - 1) none : DL.Env) = [some L, none] := rfl
  unfold runB
  simp only [List.map_cons, List.map_nil, List.length_cons, List.length_nil, Nat.zero_add, e1]
  unfold g_law_refused sTryV sRet eTup
  simp only [aCons, aNil, eC, Res.bind, e0]
  cases th M with
  | ok d M' => simp [Res.bind, liftR]
  | bad => simp [Res.bind, liftR]
  | exc e M' =>
    simp only [Res.bind, liftR]
    cases h_law_refused e with
    | none => rfl
    | some d => rfl
theorem ok_law_refused {k : Nat} (T : Zx K mg base) : LamDef P wd K mg base "_law_refused" "call" k g_law_refused := by
  obtain ⟨fd, F, gl⟩ := T.f_law_refused
  have bnd := F.bindsN (ps := ["call"]) fun _ _ _ _ _ _ us hl => match us, hl with | [_], _ => rfl
  have kp := F.kp
  obtain ⟨oc, od, dV, kV, doc, pm, an, cdv, ct, osl, rfl, lk, hcd, hD, hK⟩ := F.ex
  have sc : FnScope ["call", "e"] ["call"] (defScope (top 47)) := ⟨by kernel_rfl, by kernel_rfl, by kernel_rfl, by decide +kernel, rfl, by decide +kernel, by decide +kernel⟩
  refine ⟨⟨_, oc, od, _, _, _, dV, kV, doc, pm, an, cdv, ct, osl, ["call", "e"], fun L th => sTryV 1 h_law_refused (sRet (eTup (aCons (eC (.str "told")) (aCons (eThunk 0 L th) aNil)))), gl, kp, lk, hcd, bnd, sc, rfl, (by first | exact Or.inl rfl | exact Or.inr (Or.inl rfl)), by decide, by decide, fun A fr s H E L th act tk => ?_, run_refused⟩⟩
  refine ds_one (ds_tryV (i := 1) (bs := fun a dd nm => sRet (eTup (aCons (eIf (tTr (eL (isXD (fun q => if q = He.ga K "BadValue" then some (decide (nm = "BadValue")) else none) a dd) (aCons (eVar 1) (aCons (eC (.adr (He.ga K "BadValue"))) aNil)))) (eC (.str "value")) (eIf (tTr (eL (isXD (fun q => if q = He.ga K "BadMany" then some (decide (nm = "BadMany")) else none) a dd) (aCons (eVar 1) (aCons (eC (.adr (He.ga K "BadMany"))) aNil)))) (eC (.str "many")) (eC (.str "other")))) (aCons (e1 (thingD a dd) (eVar 1)) aNil)))) rfl rfl sc.nd rfl rfl ⟨rfl, by decide, .inl T.gl_QuantityError⟩ tk (fun W pn xe tk2 hp => ds_one (ds_ret (d_tup (da_cons d_str (da_cons (act W pn xe _ _ tk2) da_nil))))) (fun e d C h hm => ?_) (fun nm C d0 d h hm a dd oe pn hz hf => ?_) (fun a dd nm d0 d ρ M h hl => ?_))
  · obtain ⟨c, t⟩ := e
    rcases h_some h with ⟨rfl, _⟩ | ⟨rfl, _⟩
    · have e2 := hm.symm.trans T.gl_BadValue
      cases e2
      exact of_decide_eq_true T.ex_4
    · have e2 := hm.symm.trans T.gl_BadMany
      cases e2
      exact of_decide_eq_true T.ex_5
  · rcases h_some h with ⟨rfl, _⟩ | ⟨rfl, _⟩
    · have e2 := hm.symm.trans T.gl_BadValue
      cases e2
      refine ds_one (ds_ret (d_tup (da_cons (d_if (dt_of (d_callB (f_isX (kitE_of T.ex_6 T.xb_BadValue) hz hf fun q b hb => by
      by_cases e : q = He.ga K "BadValue"
      · rw [if_pos e] at hb
        cases hb
        rw [e]
        exact of_decide_eq_true T.ex_8
      · rw [if_neg e] at hb
        cases hb) rfl T.no_isinstance rfl (da_cons (d_var (pv 1)) (da_cons (d_cls rfl T.gl_BadValue) da_nil)))) d_str (d_if (dt_of (d_callB (f_isX (kitE_of T.ex_6 T.xb_BadValue) hz hf fun q b hb => by
      by_cases e : q = He.ga K "BadMany"
      · rw [if_pos e] at hb
        cases hb
        rw [e]
        exact of_decide_eq_true T.ex_7
      · rw [if_neg e] at hb
        cases hb) rfl T.no_isinstance rfl (da_cons (d_var (pv 1)) (da_cons (d_cls rfl T.gl_BadMany) da_nil)))) d_str d_str)) (da_cons (d_thing (xfC_of T.xb_BadValue) T.xb_BadValue.no hz hf (d_var (pv 1))) da_nil))))
    · have e2 := hm.symm.trans T.gl_BadMany
      cases e2
      refine ds_one (ds_ret (d_tup (da_cons (d_if (dt_of (d_callB (f_isX (kitE_of T.ex_9 T.xb_BadMany) hz hf fun q b hb => by
      by_cases e : q = He.ga K "BadValue"
      · rw [if_pos e] at hb
        cases hb
        rw [e]
        exact of_decide_eq_true T.ex_11
      · rw [if_neg e] at hb
        cases hb) rfl T.no_isinstance rfl (da_cons (d_var (pv 1)) (da_cons (d_cls rfl T.gl_BadValue) da_nil)))) d_str (d_if (dt_of (d_callB (f_isX (kitE_of T.ex_9 T.xb_BadMany) hz hf fun q b hb => by
      by_cases e : q = He.ga K "BadMany"
      · rw [if_pos e] at hb
        cases hb
        rw [e]
        exact of_decide_eq_true T.ex_10
      · rw [if_neg e] at hb
        cases hb) rfl T.no_isinstance rfl (da_cons (d_var (pv 1)) (da_cons (d_cls rfl T.gl_BadMany) da_nil)))) d_str d_str)) (da_cons (d_thing (xfC_of T.xb_BadMany) T.xb_BadMany.no hz hf (d_var (pv 1))) da_nil))))
  · have ne : ¬ ("BadMany" : Str) = "BadValue" := by decide
    rcases h_some h with ⟨rfl, rfl⟩ | ⟨rfl, rfl⟩
    all_goals
      simp [ne, sRet, eTup, aCons, aNil, eC, eVar, DL.e1, eL, eIf, tTr, truD, thingD, isXD, Res.bind, liftR, List.getElem?_set, hl]
theorem sc_law_positive : FnScope ["deck", "most", "n", "d", "it"] ["deck", "most"] (defScope (top 48)) := ⟨by kernel_rfl, by kernel_rfl, by kernel_rfl, by decide +kernel, rfl, by decide +kernel, by decide +kernel⟩
theorem fg_law_positive (T : Zx K mg base) {fd : FuncData} (F : FunD K "_law_positive" "_law_positive" (defArgs (top 48)) (defBody (top 48)) (defScope (top 48)) [] [] (He.ga K "_law_positive") fd) : FnG false P wd K mg base 4 (He.ga K "_law_positive") fd ["deck", "most"] (spD K mg 2 m_law_positive) := by
  have sc := sc_law_positive
  refine fnG_of F sc fun cdv A fr s H E hcv room hgd tk => ?_
  exact (ds_cons (ds_par (i := 2) (j := 3) rfl sc.nd rfl rfl (by decide) rfl rfl (da_cons (d_call (ok_law_pick T) (room.mono (by decide)) (fun z => nomatch z) tk rfl (da_cons (d_var (pv 0)) (da_cons (d_lst (da_cons d_int (da_cons d_int (da_cons d_int (da_cons d_int (da_cons d_int (da_cons d_int (da_cons d_int (da_cons d_int (da_cons d_int (da_cons d_int (da_cons d_int da_nil)))))))))))) da_nil)) (cnt_cons (cnt_cons cnt_nil))) (da_cons (d_call (ok_law_pick T) (room.mono (by decide)) (fun z => nomatch z) tk rfl (da_cons (d_var (pv 0)) (da_cons (d_lst (da_cons d_int (da_cons d_int (da_cons d_int (da_cons d_int (da_cons d_int (da_cons d_int (da_cons d_int da_nil)))))))) da_nil)) (cnt_cons (cnt_cons cnt_nil))) da_nil))) (ds_one (ds_ret (d_call (ok_law_value T) (room.mono (by decide)) (fun z => nomatch z) tk rfl (da_cons (d_var (pv 2)) (da_cons (d_var (pv 3)) (da_cons (d_call (ok_law_pick T) (room.mono (by decide)) (fun z => nomatch z) tk rfl (da_cons (d_var (pv 0)) (da_cons (d_lc (own := [("it", 4)]) rfl sc.nd (di_seq (d_tup (da_cons d_int (da_cons d_int (da_cons d_int (da_cons d_int (da_cons d_int (da_cons d_int (da_cons d_int da_nil))))))))) (blkOk_by (by kernel_rfl)) (fun Xb hX => by (obtain ⟨s2, H2, C2, cl2, fp2, rfl⟩ := hX); exact (dg_name (pg_name sc.nd rfl (by first | exact Or.inl rfl | exact Or.inr rfl)))) (fun Xb hX => by (obtain ⟨s2, H2, C2, cl2, fp2, rfl⟩ := hX); exact (dts_one (dt_cmp o_le (d_var (pv 4)) (d_var (pv 1))))) (fun Xb hX => by (obtain ⟨s2, H2, C2, cl2, fp2, rfl⟩ := hX); exact (d_var (pv 4)))) da_nil)) (cnt_cons (cnt_cons cnt_nil))) da_nil))) (cnt_cons (cnt_cons (cnt_cons cnt_nil)))))))
theorem ok_law_positive (T : Zx K mg base) : DefG false P wd K mg base "_law_positive" ["deck", "most"] 4 m_law_positive := by
  obtain ⟨fd, F, gl⟩ := T.f_law_positive
  exact .of F gl (fun _ _ _ _ _ _ us hl => match us, hl with | [_, _], _ => rfl) (fg_law_positive T F)
theorem sc_law_are_products_right : FnScope ["deck", "due", "told", "whole", "more", "base", "far", "a", "b", "c", "p", "q", "r", "n", "k"] ["deck"] (defScope (top 49)) := ⟨by kernel_rfl, by kernel_rfl, by kernel_rfl, by decide +kernel, rfl, by decide +kernel, by decide +kernel⟩
theorem fg_law_are_products_right (T : Zx K mg base) {fd : FuncData} (F : FunD K "_law_are_products_right" "_law_are_products_right" (defArgs (top 49)) (defBody (top 49)) (defScope (top 49)) [] [] (He.ga K "_law_are_products_right") fd) : FnG true P wd K mg base 8 (He.ga K "_law_are_products_right") fd ["deck"] (spD K mg 1 m_law_are_products_right) := by
  have sc := sc_law_are_products_right
  refine fnG_of F sc fun cdv A fr s H E hcv room hgd tk => ?_
  exact (ds_cons (ds_par3 (i := 7) (j := 8) (l := 9) rfl sc.nd rfl rfl rfl (by decide) (by decide) (by decide) rfl rfl rfl (da_cons (d_call (ok_law_positive T) (room.mono (by decide)) (fun z => nomatch z) tk rfl (da_cons (d_var (pv 0)) (da_cons d_int da_nil)) (cnt_cons (cnt_cons cnt_nil))) (da_cons (d_call (ok_law_positive T) (room.mono (by decide)) (fun z => nomatch z) tk rfl (da_cons (d_var (pv 0)) (da_cons d_int da_nil)) (cnt_cons (cnt_cons cnt_nil))) (da_cons (d_call (ok_law_positive T) (room.mono (by decide)) (fun z => nomatch z) tk rfl (da_cons (d_var (pv 0)) (da_cons d_int da_nil)) (cnt_cons (cnt_cons cnt_nil))) da_nil)))) (ds_cons (ds_set (i := 1) sc.nd rfl (by first | exact Or.inl rfl | exact Or.inr rfl) (d_call (ok_law_times T) (room.mono (by decide)) (fun z => nomatch z) tk rfl (da_cons (d_var (pv 7)) (da_cons (d_var (pv 8)) da_nil)) (cnt_cons (cnt_cons cnt_nil)))) (ds_cons (ds_set (i := 2) sc.nd rfl (by first | exact Or.inl rfl | exact Or.inr rfl) (d_lst (da_cons (d_call (ok_times T) (room.mono (by decide)) (fun z => nomatch z) tk rfl (da_cons (d_var (pv 7)) (da_cons (d_var (pv 8)) da_nil)) (cnt_cons (cnt_cons cnt_nil))) (da_cons (d_callK (ok_times_k0 T) (room.mono (by decide)) (fun z => nomatch z) tk rfl (dk_cons (d_var (pv 7)) (dk_cons (d_var (pv 8)) dk_nil))) (da_cons (d_call (ok_times T) (room.mono (by decide)) (fun z => nomatch z) tk rfl (da_cons (d_call (ok_times T) (room.mono (by decide)) (fun z => nomatch z) tk rfl (da_cons (d_var (pv 7)) (da_cons (d_var (pv 8)) da_nil)) (cnt_cons (cnt_cons cnt_nil))) (da_cons (d_var (pv 9)) da_nil)) (cnt_cons (cnt_cons cnt_nil))) (da_cons (d_call (ok_times T) (room.mono (by decide)) (fun z => nomatch z) tk rfl (da_cons (d_var (pv 7)) (da_cons (d_call (ok_times T) (room.mono (by decide)) (fun z => nomatch z) tk rfl (da_cons (d_var (pv 8)) (da_cons (d_var (pv 9)) da_nil)) (cnt_cons (cnt_cons cnt_nil))) da_nil)) (cnt_cons (cnt_cons cnt_nil))) (da_cons (d_call (ok_times T) (room.mono (by decide)) (fun z => nomatch z) tk rfl (da_cons (d_var (pv 7)) (da_cons (d_call (ok_power T) (room.mono (by decide)) (fun z => nomatch z) tk rfl (da_cons (d_var (pv 7)) (da_cons (d_un o_neg d_int) (da_cons d_int da_nil))) (cnt_cons (cnt_cons (cnt_cons cnt_nil)))) da_nil)) (cnt_cons (cnt_cons cnt_nil))) da_nil))))))) (ds_cons (ds_set (i := 3) sc.nd rfl (by first | exact Or.inl rfl | exact Or.inr rfl) (d_call (ok_law_times T) (room.mono (by decide)) (fun z => nomatch z) tk rfl (da_cons (d_var (pv 1)) (da_cons (d_var (pv 9)) da_nil)) (cnt_cons (cnt_cons cnt_nil)))) (ds_cons (ds_if (dt_not (dt_of (d_call (ok_law_same T) (room.mono (by decide)) hgd tk rfl (da_cons (d_var (pv 2)) (da_cons (d_lst (da_cons (d_var (pv 1)) (da_cons (d_var (pv 1)) (da_cons (d_var (pv 3)) (da_cons (d_var (pv 3)) (da_cons (d_tup (da_cons d_int (da_cons d_int (da_cons d_int da_nil)))) da_nil)))))) da_nil)) (cnt_cons (cnt_cons cnt_nil))))) (ds_one (ds_ret d_bl)) ds_nil) (ds_cons (ds_par3 (i := 10) (j := 11) (l := 12) rfl sc.nd rfl rfl rfl (by decide) (by decide) (by decide) rfl rfl rfl (da_cons (d_call (ok_law_pick T) (room.mono (by decide)) (fun z => nomatch z) tk rfl (da_cons (d_var (pv 0)) (da_cons (d_lst (da_cons (d_un o_neg d_int) (da_cons (d_un o_neg d_int) (da_cons (d_un o_neg d_int) (da_cons d_int (da_cons d_int (da_cons d_int (da_cons d_int (da_cons d_int da_nil))))))))) da_nil)) (cnt_cons (cnt_cons cnt_nil))) (da_cons (d_call (ok_law_pick T) (room.mono (by decide)) (fun z => nomatch z) tk rfl (da_cons (d_var (pv 0)) (da_cons (d_lst (da_cons d_int (da_cons d_int (da_cons d_int (da_cons d_int da_nil))))) da_nil)) (cnt_cons (cnt_cons cnt_nil))) (da_cons (d_call (ok_law_pick T) (room.mono (by decide)) (fun z => nomatch z) tk rfl (da_cons (d_var (pv 0)) (da_cons (d_lst (da_cons d_int (da_cons d_int (da_cons d_int da_nil)))) da_nil)) (cnt_cons (cnt_cons cnt_nil))) da_nil)))) (ds_cons (ds_set (i := 1) sc.nd rfl (by first | exact Or.inl rfl | exact Or.inr rfl) (d_call (ok_law_power T) (room.mono (by decide)) (fun z => nomatch z) tk rfl (da_cons (d_var (pv 7)) (da_cons (d_var (pv 10)) (da_cons (d_var (pv 11)) da_nil))) (cnt_cons (cnt_cons (cnt_cons cnt_nil))))) (ds_cons (ds_set (i := 2) sc.nd rfl (by first | exact Or.inl rfl | exact Or.inr rfl) (d_lst (da_cons (d_call (ok_power T) (room.mono (by decide)) (fun z => nomatch z) tk rfl (da_cons (d_var (pv 7)) (da_cons (d_var (pv 10)) (da_cons (d_var (pv 11)) da_nil))) (cnt_cons (cnt_cons (cnt_cons cnt_nil)))) (da_cons (d_callK (ok_power_k0 T) (room.mono (by decide)) (fun z => nomatch z) tk rfl (dk_cons (d_var (pv 11)) (dk_cons (d_var (pv 10)) (dk_cons (d_var (pv 7)) dk_nil)))) (da_cons (d_call (ok_power T) (room.mono (by decide)) (fun z => nomatch z) tk rfl (da_cons (d_call (ok_power T) (room.mono (by decide)) (fun z => nomatch z) tk rfl (da_cons (d_var (pv 7)) (da_cons (d_var (pv 10)) (da_cons (d_var (pv 11)) da_nil))) (cnt_cons (cnt_cons (cnt_cons cnt_nil)))) (da_cons (d_var (pv 12)) (da_cons d_int da_nil))) (cnt_cons (cnt_cons (cnt_cons cnt_nil)))) (da_cons (d_call (ok_power T) (room.mono (by decide)) (fun z => nomatch z) tk rfl (da_cons (d_call (ok_power T) (room.mono (by decide)) (fun z => nomatch z) tk rfl (da_cons (d_var (pv 7)) (da_cons d_int (da_cons (d_var (pv 11)) da_nil))) (cnt_cons (cnt_cons (cnt_cons cnt_nil)))) (da_cons (d_var (pv 10)) (da_cons d_int da_nil))) (cnt_cons (cnt_cons (cnt_cons cnt_nil)))) (da_cons (d_call (ok_times T) (room.mono (by decide)) (fun z => nomatch z) tk rfl (da_cons (d_call (ok_power T) (room.mono (by decide)) (fun z => nomatch z) tk rfl (da_cons (d_var (pv 7)) (da_cons (d_var (pv 10)) (da_cons d_int da_nil))) (cnt_cons (cnt_cons (cnt_cons cnt_nil)))) (da_cons (d_call (ok_power T) (room.mono (by decide)) (fun z => nomatch z) tk rfl (da_cons (d_var (pv 8)) (da_cons (d_var (pv 10)) (da_cons d_int da_nil))) (cnt_cons (cnt_cons (cnt_cons cnt_nil)))) da_nil)) (cnt_cons (cnt_cons cnt_nil))) (da_cons (d_call (ok_power T) (room.mono (by decide)) (fun z => nomatch z) tk rfl (da_cons (d_call (ok_times T) (room.mono (by decide)) (fun z => nomatch z) tk rfl (da_cons (d_var (pv 7)) (da_cons (d_var (pv 8)) da_nil)) (cnt_cons (cnt_cons cnt_nil))) (da_cons (d_var (pv 10)) (da_cons d_int da_nil))) (cnt_cons (cnt_cons (cnt_cons cnt_nil)))) da_nil)))))))) (ds_cons (ds_set (i := 4) sc.nd rfl (by first | exact Or.inl rfl | exact Or.inr rfl) (d_call (ok_law_power T) (room.mono (by decide)) (fun z => nomatch z) tk rfl (da_cons (d_call (ok_law_times T) (room.mono (by decide)) (fun z => nomatch z) tk rfl (da_cons (d_var (pv 7)) (da_cons (d_var (pv 8)) da_nil)) (cnt_cons (cnt_cons cnt_nil))) (da_cons (d_var (pv 10)) (da_cons d_int da_nil))) (cnt_cons (cnt_cons (cnt_cons cnt_nil))))) (ds_cons (ds_if (dt_not (dt_of (d_call (ok_law_same T) (room.mono (by decide)) hgd tk rfl (da_cons (d_var (pv 2)) (da_cons (d_lst (da_cons (d_var (pv 1)) (da_cons (d_var (pv 1)) (da_cons (d_call (ok_law_power T) (room.mono (by decide)) (fun z => nomatch z) tk rfl (da_cons (d_var (pv 7)) (da_cons (d_op o_mulI (d_var (pv 10)) (d_var (pv 12))) (da_cons (d_var (pv 11)) da_nil))) (cnt_cons (cnt_cons (cnt_cons cnt_nil)))) (da_cons (d_var (pv 1)) (da_cons (d_var (pv 4)) (da_cons (d_var (pv 4)) da_nil))))))) da_nil)) (cnt_cons (cnt_cons cnt_nil))))) (ds_one (ds_ret d_bl)) ds_nil) (ds_cons (ds_par (i := 13) (j := 14) rfl sc.nd rfl rfl (by decide) rfl rfl (da_cons (d_call (ok_law_pick T) (room.mono (by decide)) (fun z => nomatch z) tk rfl (da_cons (d_var (pv 0)) (da_cons (d_lst (da_cons d_int (da_cons (d_un o_neg d_int) (da_cons d_int (da_cons d_int da_nil))))) da_nil)) (cnt_cons (cnt_cons cnt_nil))) (da_cons (d_call (ok_law_pick T) (room.mono (by decide)) (fun z => nomatch z) tk rfl (da_cons (d_var (pv 0)) (da_cons (d_lst (da_cons d_int (da_cons d_int (da_cons d_int da_nil)))) da_nil)) (cnt_cons (cnt_cons cnt_nil))) da_nil))) (ds_cons (ds_set (i := 5) sc.nd rfl (by first | exact Or.inl rfl | exact Or.inr rfl) (d_tup (da_cons (d_call (ok_law_pick T) (room.mono (by decide)) (fun z => nomatch z) tk rfl (da_cons (d_var (pv 0)) (da_cons (d_lst (da_cons d_int (da_cons d_int da_nil))) da_nil)) (cnt_cons (cnt_cons cnt_nil))) (da_cons d_int (da_cons d_int da_nil))))) (ds_cons (ds_set (i := 6) sc.nd rfl (by first | exact Or.inl rfl | exact Or.inr rfl) (d_call (ok_power T) (room.mono (by decide)) (fun z => nomatch z) tk rfl (da_cons (d_var (pv 5)) (da_cons (d_var (pv 13)) (da_cons (d_var (pv 14)) da_nil))) (cnt_cons (cnt_cons (cnt_cons cnt_nil))))) (ds_one (ds_ret (d_call (ok_law_same T) (room.mono (by decide)) hgd tk rfl (da_cons (d_lst (da_cons (d_var (pv 6)) (da_cons (d_call (ok_compare T) (room.mono (by decide)) (fun z => nomatch z) tk rfl (da_cons (d_call (ok_power T) (room.mono (by decide)) (fun z => nomatch z) tk rfl (da_cons (d_var (pv 6)) (da_cons (d_var (pv 14)) (da_cons d_int da_nil))) (cnt_cons (cnt_cons (cnt_cons cnt_nil)))) (da_cons (d_call (ok_power T) (room.mono (by decide)) (fun z => nomatch z) tk rfl (da_cons (d_var (pv 5)) (da_cons (d_var (pv 13)) (da_cons d_int da_nil))) (cnt_cons (cnt_cons (cnt_cons cnt_nil)))) da_nil)) (cnt_cons (cnt_cons cnt_nil))) da_nil))) (da_cons (d_lst (da_cons (d_call (ok_law_power T) (room.mono (by decide)) (fun z => nomatch z) tk rfl (da_cons (d_var (pv 5)) (da_cons (d_var (pv 13)) (da_cons (d_var (pv 14)) da_nil))) (cnt_cons (cnt_cons (cnt_cons cnt_nil)))) (da_cons d_int da_nil))) da_nil)) (cnt_cons (cnt_cons cnt_nil))))))))))))))))))
theorem ok_law_are_products_right (T : Zx K mg base) : DefG true P wd K mg base "_law_are_products_right" ["deck"] 8 m_law_are_products_right := by
  obtain ⟨fd, F, gl⟩ := T.f_law_are_products_right
  exact .of F gl (fun _ _ _ _ _ _ us hl => match us, hl with | [_], _ => rfl) (fg_law_are_products_right T F)
theorem sc_law_are_sums_right : FnScope ["deck", "some", "due", "told", "whole", "a", "b", "c", "go"] ["deck"] (defScope (top 50)) := ⟨by kernel_rfl, by kernel_rfl, by kernel_rfl, by decide +kernel, rfl, by decide +kernel, by decide +kernel⟩
theorem fg_law_are_sums_right (T : Zx K mg base) {fd : FuncData} (F : FunD K "_law_are_sums_right" "_law_are_sums_right" (defArgs (top 50)) (defBody (top 50)) (defScope (top 50)) [] [] (He.ga K "_law_are_sums_right") fd) : FnG true P wd K mg base 8 (He.ga K "_law_are_sums_right") fd ["deck"] (spD K mg 1 m_law_are_sums_right) := by
  have sc := sc_law_are_sums_right
  refine fnG_of F sc fun cdv A fr s H E hcv room hgd tk => ?_
  exact (ds_cons (by first | exact (ds_setLc (i := 1) (own := [("go", 8)]) rfl sc.nd rfl rfl rfl (di_range1 rfl T.no_range (da_cons d_int da_nil)) (blkOk_by (by kernel_rfl)) (fun Xb hX => by (obtain ⟨s2, H2, C2, cl2, fp2, rfl⟩ := hX); exact (dg_name (pg_name sc.nd rfl (by first | exact Or.inl rfl | exact Or.inr rfl)))) (fun Xb hX => by (obtain ⟨s2, H2, C2, cl2, fp2, rfl⟩ := hX); exact dts_nil) (fun Xb hX => by (obtain ⟨s2, H2, C2, cl2, fp2, rfl⟩ := hX); exact (d_op o_add (d_call (ok_law_fraction T) (room.mono (by decide)) (fun z => nomatch z) LamX.takes0 rfl (da_cons (d_var (pv 0)) (da_cons d_int (da_cons (d_lst (da_cons d_int (da_cons d_int (da_cons d_int (da_cons d_int (da_cons d_int da_nil)))))) da_nil))) (cnt_cons (cnt_cons (cnt_cons cnt_nil)))) (d_tup (da_cons d_int da_nil))))) | exact (ds_set (i := 1) sc.nd rfl (by first | exact Or.inl rfl | exact Or.inr rfl) (d_lc (own := [("go", 8)]) rfl sc.nd (di_range1 rfl T.no_range (da_cons d_int da_nil)) (blkOk_by (by kernel_rfl)) (fun Xb hX => by (obtain ⟨s2, H2, C2, cl2, fp2, rfl⟩ := hX); exact (dg_name (pg_name sc.nd rfl (by first | exact Or.inl rfl | exact Or.inr rfl)))) (fun Xb hX => by (obtain ⟨s2, H2, C2, cl2, fp2, rfl⟩ := hX); exact dts_nil) (fun Xb hX => by (obtain ⟨s2, H2, C2, cl2, fp2, rfl⟩ := hX); exact (d_op o_add (d_call (ok_law_fraction T) (room.mono (by decide)) (fun z => nomatch z) LamX.takes0 rfl (da_cons (d_var (pv 0)) (da_cons d_int (da_cons (d_lst (da_cons d_int (da_cons d_int (da_cons d_int (da_cons d_int (da_cons d_int da_nil)))))) da_nil))) (cnt_cons (cnt_cons (cnt_cons cnt_nil)))) (d_tup (da_cons d_int da_nil))))))) (ds_cons (ds_asg (d_var (pv 1)) (dg_tup rfl (dg_cons (dg_name (pg_name sc.nd rfl (by first | exact Or.inl rfl | exact Or.inr rfl))) (dg_cons (dg_name (pg_name sc.nd rfl (by first | exact Or.inl rfl | exact Or.inr rfl))) (dg_cons (dg_name (pg_name sc.nd rfl (by first | exact Or.inl rfl | exact Or.inr rfl))) dg_nil))))) (ds_cons (ds_set (i := 2) sc.nd rfl (by first | exact Or.inl rfl | exact Or.inr rfl) (d_op o_add (d_call (ok_law_add T) (room.mono (by decide)) (fun z => nomatch z) tk rfl (da_cons (d_slice x_sl (d_var (pv 5)) do_none (do_some d_int)) (da_cons (d_slice x_sl (d_var (pv 6)) do_none (do_some d_int)) da_nil)) (cnt_cons (cnt_cons cnt_nil))) (d_tup (da_cons d_int da_nil)))) (ds_cons (ds_set (i := 3) sc.nd rfl (by first | exact Or.inl rfl | exact Or.inr rfl) (d_lst (da_cons (d_call (ok_plus T) (room.mono (by decide)) (fun z => nomatch z) tk rfl (da_cons (d_var (pv 5)) (da_cons (d_var (pv 6)) da_nil)) (cnt_cons (cnt_cons cnt_nil))) (da_cons (d_callK (ok_plus_k0 T) (room.mono (by decide)) (fun z => nomatch z) tk rfl (dk_cons (d_var (pv 5)) (dk_cons (d_var (pv 6)) dk_nil))) (da_cons (d_call (ok_plus T) (room.mono (by decide)) (fun z => nomatch z) tk rfl (da_cons (d_call (ok_plus T) (room.mono (by decide)) (fun z => nomatch z) tk rfl (da_cons (d_var (pv 5)) (da_cons (d_var (pv 6)) da_nil)) (cnt_cons (cnt_cons cnt_nil))) (da_cons (d_var (pv 7)) da_nil)) (cnt_cons (cnt_cons cnt_nil))) (da_cons (d_call (ok_plus T) (room.mono (by decide)) (fun z => nomatch z) tk rfl (da_cons (d_var (pv 5)) (da_cons (d_call (ok_plus T) (room.mono (by decide)) (fun z => nomatch z) tk rfl (da_cons (d_var (pv 6)) (da_cons (d_var (pv 7)) da_nil)) (cnt_cons (cnt_cons cnt_nil))) da_nil)) (cnt_cons (cnt_cons cnt_nil))) (da_cons (d_call (ok_plus T) (room.mono (by decide)) (fun z => nomatch z) tk rfl (da_cons (d_var (pv 5)) (da_cons (d_tup (da_cons (d_un o_neg (d_ix x_ix (d_var (pv 5)) d_int)) (da_cons (d_ix x_ix (d_var (pv 5)) d_int) (da_cons d_int da_nil)))) da_nil)) (cnt_cons (cnt_cons cnt_nil))) (da_cons (d_call (ok_times T) (room.mono (by decide)) (fun z => nomatch z) tk rfl (da_cons (d_var (pv 5)) (da_cons (d_call (ok_plus T) (room.mono (by decide)) (fun z => nomatch z) tk rfl (da_cons (d_var (pv 6)) (da_cons (d_var (pv 7)) da_nil)) (cnt_cons (cnt_cons cnt_nil))) da_nil)) (cnt_cons (cnt_cons cnt_nil))) (da_cons (d_callK (ok_times_k0 T) (room.mono (by decide)) (fun z => nomatch z) tk rfl (dk_cons (d_var (pv 6)) (dk_cons (d_var (pv 5)) dk_nil))) da_nil))))))))) (ds_cons (ds_set (i := 4) sc.nd rfl (by first | exact Or.inl rfl | exact Or.inr rfl) (d_op o_add (d_call (ok_law_add T) (room.mono (by decide)) (fun z => nomatch z) tk rfl (da_cons (d_slice x_sl (d_var (pv 2)) do_none (do_some d_int)) (da_cons (d_slice x_sl (d_var (pv 7)) do_none (do_some d_int)) da_nil)) (cnt_cons (cnt_cons cnt_nil))) (d_tup (da_cons d_int da_nil)))) (ds_one (ds_ret (d_call (ok_law_same T) (room.mono (by decide)) hgd tk rfl (da_cons (d_var (pv 3)) (da_cons (d_lst (da_cons (d_var (pv 2)) (da_cons (d_var (pv 2)) (da_cons (d_var (pv 4)) (da_cons (d_var (pv 4)) (da_cons (d_tup (da_cons d_int (da_cons d_int (da_cons d_int da_nil)))) (da_cons (d_op o_add (d_call (ok_law_mul T) (room.mono (by decide)) (fun z => nomatch z) tk rfl (da_cons (d_slice x_sl (d_var (pv 5)) do_none (do_some d_int)) (da_cons (d_call (ok_law_add T) (room.mono (by decide)) (fun z => nomatch z) tk rfl (da_cons (d_slice x_sl (d_var (pv 6)) do_none (do_some d_int)) (da_cons (d_slice x_sl (d_var (pv 7)) do_none (do_some d_int)) da_nil)) (cnt_cons (cnt_cons cnt_nil))) da_nil)) (cnt_cons (cnt_cons cnt_nil))) (d_tup (da_cons d_int da_nil))) (da_cons (d_op o_add (d_call (ok_law_mul T) (room.mono (by decide)) (fun z => nomatch z) tk rfl (da_cons (d_slice x_sl (d_var (pv 5)) do_none (do_some d_int)) (da_cons (d_slice x_sl (d_var (pv 6)) do_none (do_some d_int)) da_nil)) (cnt_cons (cnt_cons cnt_nil))) (d_tup (da_cons d_int da_nil))) da_nil)))))))) da_nil)) (cnt_cons (cnt_cons cnt_nil))))))))))
theorem ok_law_are_sums_right (T : Zx K mg base) : DefG true P wd K mg base "_law_are_sums_right" ["deck"] 8 m_law_are_sums_right := by
  obtain ⟨fd, F, gl⟩ := T.f_law_are_sums_right
  exact .of F gl (fun _ _ _ _ _ _ us hl => match us, hl with | [_], _ => rfl) (fg_law_are_sums_right T F)
theorem sc_law_are_refused : FnScope ["deck", "heard", "due", "bad", "odd", "low", "far", "one", "num", "den", "it"] ["deck"] (defScope (top 51)) := ⟨by kernel_rfl, by kernel_rfl, by kernel_rfl, by decide +kernel, rfl, by decide +kernel, by decide +kernel⟩
theorem fg_law_are_refused (T : Zx K mg base) {fd : FuncData} (F : FunD K "_law_are_refused" "_law_are_refused" (defArgs (top 51)) (defBody (top 51)) (defScope (top 51)) [] [] (He.ga K "_law_are_refused") fd) : FnG true P wd K mg base 10 (He.ga K "_law_are_refused") fd ["deck"] (spD K mg 1 m_law_are_refused) := by
  have sc := sc_law_are_refused
  have tb := T.tb (tabOf_law_are_refused K) (by simp [codes])
  have hcode : fd.code = .ref (tabOf_law_are_refused K).1 := T.code_law_are_refused F
  have hmT : ((tabOf_law_are_refused K).2, ("_law_are_refused" : Str) ++ ".<locals>." ++ "<lambda>") ∈ TabsOf.T := by
    rw [T.tt]
    exact List.mem_cons_self
  have hu : ∀ p ∈ TabsOf.T, p.1 = (tabOf_law_are_refused K).2 → p.2 = ("_law_are_refused" : Str) ++ ".<locals>." ++ "<lambda>" := by
    rw [T.tt]
    intro p hp _
    rw [List.mem_singleton.mp hp]
  refine fnG_of F sc fun cdv A fr s H E hcv room hgd tk => ?_
  exact (ds_cons (ds_asg (d_tup (da_cons (d_call (ok_law_pick T) (room.mono (by decide)) (fun z => nomatch z) tk rfl (da_cons (d_var (pv 0)) (da_cons (d_lst (da_cons d_non (da_cons (d_tup (da_cons d_int (da_cons d_int da_nil))) (da_cons (d_tup (da_cons d_int (da_cons d_int (da_cons d_int da_nil)))) (da_cons (d_tup (da_cons d_int (da_cons d_int (da_cons d_int da_nil)))) (da_cons (d_tup (da_cons d_int (da_cons d_int (da_cons d_int da_nil)))) (da_cons (d_lst (da_cons d_int (da_cons d_int (da_cons d_int da_nil)))) (da_cons (d_tup (da_cons d_int (da_cons d_int (da_cons d_bl da_nil)))) da_nil)))))))) da_nil)) (cnt_cons (cnt_cons cnt_nil))) (da_cons (d_call (ok_law_pick T) (room.mono (by decide)) (fun z => nomatch z) tk rfl (da_cons (d_var (pv 0)) (da_cons (d_lst (da_cons d_non (da_cons d_int (da_cons (d_tup (da_cons d_int (da_cons d_int (da_cons d_int da_nil)))) (da_cons (d_tup (da_cons d_int (da_cons d_int (da_cons d_int da_nil)))) da_nil))))) da_nil)) (cnt_cons (cnt_cons cnt_nil))) da_nil))) (dg_tup rfl (dg_cons (dg_name (pg_name sc.nd rfl (by first | exact Or.inl rfl | exact Or.inr rfl))) (dg_cons (dg_name (pg_name sc.nd rfl (by first | exact Or.inl rfl | exact Or.inr rfl))) dg_nil)))) (ds_cons (ds_asg (d_tup (da_cons (d_call (ok_law_pick T) (room.mono (by decide)) (fun z => nomatch z) tk rfl (da_cons (d_var (pv 0)) (da_cons (d_lst (da_cons (d_tup (da_cons d_int (da_cons d_int (da_cons d_int da_nil)))) (da_cons (d_tup (da_cons (d_un o_neg d_int) (da_cons d_int (da_cons d_int da_nil)))) da_nil))) da_nil)) (cnt_cons (cnt_cons cnt_nil))) (da_cons (d_call (ok_law_pick T) (room.mono (by decide)) (fun z => nomatch z) tk rfl (da_cons (d_var (pv 0)) (da_cons (d_lst (da_cons (d_tup (da_cons d_int (da_cons d_int (da_cons d_int da_nil)))) (da_cons (d_tup (da_cons d_int (da_cons d_int (da_cons d_int da_nil)))) da_nil))) da_nil)) (cnt_cons (cnt_cons cnt_nil))) (da_cons (d_tup (da_cons d_int (da_cons d_int (da_cons d_int da_nil)))) da_nil)))) (dg_tup rfl (dg_cons (dg_name (pg_name sc.nd rfl (by first | exact Or.inl rfl | exact Or.inr rfl))) (dg_cons (dg_name (pg_name sc.nd rfl (by first | exact Or.inl rfl | exact Or.inr rfl))) (dg_cons (dg_name (pg_name sc.nd rfl (by first | exact Or.inl rfl | exact Or.inr rfl))) dg_nil))))) (ds_cons (ds_asg (d_tup (da_cons (d_call (ok_law_pick T) (room.mono (by decide)) (fun z => nomatch z) tk rfl (da_cons (d_var (pv 0)) (da_cons (d_lst (da_cons d_non (da_cons d_int (da_cons (d_un o_neg d_int) (da_cons d_bl (da_cons d_str da_nil)))))) da_nil)) (cnt_cons (cnt_cons cnt_nil))) (da_cons (d_call (ok_law_pick T) (room.mono (by decide)) (fun z => nomatch z) tk rfl (da_cons (d_var (pv 0)) (da_cons (d_lst (da_cons d_int (da_cons (d_un o_neg d_int) (da_cons d_int (da_cons d_bl (da_cons d_non da_nil)))))) da_nil)) (cnt_cons (cnt_cons cnt_nil))) da_nil))) (dg_tup rfl (dg_cons (dg_name (pg_name sc.nd rfl (by first | exact Or.inl rfl | exact Or.inr rfl))) (dg_cons (dg_name (pg_name sc.nd rfl (by first | exact Or.inl rfl | exact Or.inr rfl))) dg_nil)))) (ds_cons (ds_set (i := 1) sc.nd rfl (by first | exact Or.inl rfl | exact Or.inr rfl) (d_own (da_cons (d_lamcall (k := 7) (ok_law_refused T) (room.mono (by decide)) tk rfl tb (hcv.trans hcode) hmT hu (LamX.lamS_by (by kernel_rfl)) rfl (fun _ _ _ _ _ => rfl) (fun A2 fr2 s2 H2 E2 f2 c2 room tk2 => (d_call (ok_times T) (room.mono (by decide)) (fun z => nomatch z) tk2 rfl (da_cons (d_var (pv 3)) (da_cons (d_var (pv 4)) da_nil)) (cnt_cons (cnt_cons cnt_nil))))) da_nil))) (ds_cons (ds_expr (d_meth PySem.F.plainAttrs_list PySem.F.slot_list_append PySem.F.type_list_append m_append (d_var (pv 1)) (da_cons (d_lamcall (k := 7) (ok_law_refused T) (room.mono (by decide)) tk rfl tb (hcv.trans hcode) hmT hu (LamX.lamS_by (by kernel_rfl)) rfl (fun _ _ _ _ _ => rfl) (fun A2 fr2 s2 H2 E2 f2 c2 room tk2 => (d_callK (ok_times_k0 T) (room.mono (by decide)) (fun z => nomatch z) tk2 rfl (dk_cons (d_var (pv 4)) (dk_cons (d_var (pv 5)) dk_nil))))) da_nil))) (ds_cons (ds_expr (d_meth PySem.F.plainAttrs_list PySem.F.slot_list_append PySem.F.type_list_append m_append (d_var (pv 1)) (da_cons (d_lamcall (k := 7) (ok_law_refused T) (room.mono (by decide)) tk rfl tb (hcv.trans hcode) hmT hu (LamX.lamS_by (by kernel_rfl)) rfl (fun _ _ _ _ _ => rfl) (fun A2 fr2 s2 H2 E2 f2 c2 room tk2 => (d_call (ok_times T) (room.mono (by decide)) (fun z => nomatch z) tk2 rfl (da_cons (d_var (pv 5)) (da_cons (d_var (pv 6)) da_nil)) (cnt_cons (cnt_cons cnt_nil))))) da_nil))) (ds_cons (ds_expr (d_meth PySem.F.plainAttrs_list PySem.F.slot_list_append PySem.F.type_list_append m_append (d_var (pv 1)) (da_cons (d_lamcall (k := 7) (ok_law_refused T) (room.mono (by decide)) tk rfl tb (hcv.trans hcode) hmT hu (LamX.lamS_by (by kernel_rfl)) rfl (fun _ _ _ _ _ => rfl) (fun A2 fr2 s2 H2 E2 f2 c2 room tk2 => (d_call (ok_times T) (room.mono (by decide)) (fun z => nomatch z) tk2 rfl (da_cons (d_var (pv 6)) (da_cons (d_var (pv 5)) da_nil)) (cnt_cons (cnt_cons cnt_nil))))) da_nil))) (ds_cons (ds_expr (d_meth PySem.F.plainAttrs_list PySem.F.slot_list_append PySem.F.type_list_append m_append (d_var (pv 1)) (da_cons (d_lamcall (k := 7) (ok_law_refused T) (room.mono (by decide)) tk rfl tb (hcv.trans hcode) hmT hu (LamX.lamS_by (by kernel_rfl)) rfl (fun _ _ _ _ _ => rfl) (fun A2 fr2 s2 H2 E2 f2 c2 room tk2 => (d_call (ok_plus T) (room.mono (by decide)) (fun z => nomatch z) tk2 rfl (da_cons (d_var (pv 3)) (da_cons (d_var (pv 4)) da_nil)) (cnt_cons (cnt_cons cnt_nil))))) da_nil))) (ds_cons (ds_expr (d_meth PySem.F.plainAttrs_list PySem.F.slot_list_append PySem.F.type_list_append m_append (d_var (pv 1)) (da_cons (d_lamcall (k := 7) (ok_law_refused T) (room.mono (by decide)) tk rfl tb (hcv.trans hcode) hmT hu (LamX.lamS_by (by kernel_rfl)) rfl (fun _ _ _ _ _ => rfl) (fun A2 fr2 s2 H2 E2 f2 c2 room tk2 => (d_call (ok_plus T) (room.mono (by decide)) (fun z => nomatch z) tk2 rfl (da_cons (d_var (pv 6)) (da_cons (d_var (pv 4)) da_nil)) (cnt_cons (cnt_cons cnt_nil))))) da_nil))) (ds_cons (ds_expr (d_meth PySem.F.plainAttrs_list PySem.F.slot_list_append PySem.F.type_list_append m_append (d_var (pv 1)) (da_cons (d_lamcall (k := 7) (ok_law_refused T) (room.mono (by decide)) tk rfl tb (hcv.trans hcode) hmT hu (LamX.lamS_by (by kernel_rfl)) rfl (fun _ _ _ _ _ => rfl) (fun A2 fr2 s2 H2 E2 f2 c2 room tk2 => (d_callK (ok_plus_k0 T) (room.mono (by decide)) (fun z => nomatch z) tk2 rfl (dk_cons (d_var (pv 6)) (dk_cons (d_var (pv 7)) dk_nil))))) da_nil))) (ds_cons (ds_expr (d_meth PySem.F.plainAttrs_list PySem.F.slot_list_append PySem.F.type_list_append m_append (d_var (pv 1)) (da_cons (d_lamcall (k := 7) (ok_law_refused T) (room.mono (by decide)) tk rfl tb (hcv.trans hcode) hmT hu (LamX.lamS_by (by kernel_rfl)) rfl (fun _ _ _ _ _ => rfl) (fun A2 fr2 s2 H2 E2 f2 c2 room tk2 => (d_call (ok_power T) (room.mono (by decide)) (fun z => nomatch z) tk2 rfl (da_cons (d_var (pv 3)) (da_cons (d_var (pv 8)) (da_cons (d_var (pv 9)) da_nil))) (cnt_cons (cnt_cons (cnt_cons cnt_nil)))))) da_nil))) (ds_cons (ds_expr (d_meth PySem.F.plainAttrs_list PySem.F.slot_list_append PySem.F.type_list_append m_append (d_var (pv 1)) (da_cons (d_lamcall (k := 7) (ok_law_refused T) (room.mono (by decide)) tk rfl tb (hcv.trans hcode) hmT hu (LamX.lamS_by (by kernel_rfl)) rfl (fun _ _ _ _ _ => rfl) (fun A2 fr2 s2 H2 E2 f2 c2 room tk2 => (d_call (ok_power T) (room.mono (by decide)) (fun z => nomatch z) tk2 rfl (da_cons (d_var (pv 5)) (da_cons (d_var (pv 8)) (da_cons (d_var (pv 9)) da_nil))) (cnt_cons (cnt_cons (cnt_cons cnt_nil)))))) da_nil))) (ds_cons (ds_expr (d_meth PySem.F.plainAttrs_list PySem.F.slot_list_append PySem.F.type_list_append m_append (d_var (pv 1)) (da_cons (d_lamcall (k := 7) (ok_law_refused T) (room.mono (by decide)) tk rfl tb (hcv.trans hcode) hmT hu (LamX.lamS_by (by kernel_rfl)) rfl (fun _ _ _ _ _ => rfl) (fun A2 fr2 s2 H2 E2 f2 c2 room tk2 => (d_call (ok_power T) (room.mono (by decide)) (fun z => nomatch z) tk2 rfl (da_cons (d_var (pv 7)) (da_cons (d_var (pv 8)) (da_cons (d_var (pv 9)) da_nil))) (cnt_cons (cnt_cons (cnt_cons cnt_nil)))))) da_nil))) (ds_cons (ds_expr (d_meth PySem.F.plainAttrs_list PySem.F.slot_list_append PySem.F.type_list_append m_append (d_var (pv 1)) (da_cons (d_lamcall (k := 7) (ok_law_refused T) (room.mono (by decide)) tk rfl tb (hcv.trans hcode) hmT hu (LamX.lamS_by (by kernel_rfl)) rfl (fun _ _ _ _ _ => rfl) (fun A2 fr2 s2 H2 E2 f2 c2 room tk2 => (d_callK (ok_power_k0 T) (room.mono (by decide)) (fun z => nomatch z) tk2 rfl (dk_cons (d_var (pv 9)) (dk_cons d_int (dk_cons (d_var (pv 7)) dk_nil)))))) da_nil))) (ds_cons (ds_set (i := 2) sc.nd rfl (by first | exact Or.inl rfl | exact Or.inr rfl) (d_op o_add (d_lc (own := [("it", 10)]) rfl sc.nd (di_seq (d_tup (da_cons (d_var (pv 3)) (da_cons (d_var (pv 4)) (da_cons (d_var (pv 5)) (da_cons (d_var (pv 5)) (da_cons (d_var (pv 3)) (da_cons (d_var (pv 6)) (da_cons (d_var (pv 6)) (da_cons (d_var (pv 3)) (da_cons (d_var (pv 5)) da_nil))))))))))) (blkOk_by (by kernel_rfl)) (fun Xb hX => by (obtain ⟨s2, H2, C2, cl2, fp2, rfl⟩ := hX); exact (dg_name (pg_name sc.nd rfl (by first | exact Or.inl rfl | exact Or.inr rfl)))) (fun Xb hX => by (obtain ⟨s2, H2, C2, cl2, fp2, rfl⟩ := hX); exact dts_nil) (fun Xb hX => by (obtain ⟨s2, H2, C2, cl2, fp2, rfl⟩ := hX); exact (d_tup (da_cons d_str (da_cons (d_var (pv 10)) da_nil))))) (d_lst (da_cons (d_tup (da_cons d_str (da_cons (d_var (pv 8)) da_nil))) (da_cons (d_tup (da_cons d_str (da_cons (d_var (pv 9)) da_nil))) da_nil))))) (ds_one (ds_ret (d_call (ok_law_same T) (room.mono (by decide)) hgd tk rfl (da_cons (d_var (pv 1)) (da_cons (d_var (pv 2)) da_nil)) (cnt_cons (cnt_cons cnt_nil))))))))))))))))))))
theorem ok_law_are_refused (T : Zx K mg base) : DefG true P wd K mg base "_law_are_refused" ["deck"] 10 m_law_are_refused := by
  obtain ⟨fd, F, gl⟩ := T.f_law_are_refused
  exact .of F gl (fun _ _ _ _ _ _ us hl => match us, hl with | [_], _ => rfl) (fg_law_are_refused T F)
theorem sc_law_is_all_right : FnScope ["script", "deck", "turn"] ["script"] (defScope (top 52)) := ⟨by kernel_rfl, by kernel_rfl, by kernel_rfl, by decide +kernel, rfl, by decide +kernel, by decide +kernel⟩
theorem fg_law_is_all_right (T : Zx K mg base) {fd : FuncData} (F : FunD K "_law_is_all_right" "_law_is_all_right" (defArgs (top 52)) (defBody (top 52)) (defScope (top 52)) [] [] (He.ga K "_law_is_all_right") fd) : FnG true P wd K mg base 11 (He.ga K "_law_is_all_right") fd ["script"] (spD K mg 1 m_law_is_all_right) := by
  have sc := sc_law_is_all_right
  refine fnG_of F sc fun cdv A fr s H E hcv room hgd tk => ?_
  exact (ds_cons (ds_set (i := 1) sc.nd rfl (by first | exact Or.inl rfl | exact Or.inr rfl) (d_call (ok_law_deck T) (room.mono (by decide)) (fun z => nomatch z) tk rfl (da_cons (d_var (pv 0)) (da_cons d_int da_nil)) (cnt_cons (cnt_cons cnt_nil)))) (ds_cons (ds_for (passes_of rfl) rfl (di_range1 rfl T.no_range (da_cons d_int da_nil)) (dg_name (pg_name sc.nd rfl (by first | exact Or.inl rfl | exact Or.inr rfl))) (ds_one (ds_if (dt_w (dw_or (dt_not (dt_of (d_call (ok_law_are_products_right T) (room.mono (by decide)) hgd tk rfl (da_cons (d_var (pv 1)) da_nil) (cnt_cons cnt_nil)))) (dw_or1 (dt_not (dt_of (d_call (ok_law_are_sums_right T) (room.mono (by decide)) hgd tk rfl (da_cons (d_var (pv 1)) da_nil) (cnt_cons cnt_nil))))))) (ds_one (ds_ret d_bl)) ds_nil))) (ds_one (ds_ret (d_call (ok_law_are_refused T) (room.mono (by decide)) hgd tk rfl (da_cons (d_var (pv 1)) da_nil) (cnt_cons cnt_nil))))))
theorem ok_law_is_all_right (T : Zx K mg base) : DefG true P wd K mg base "_law_is_all_right" ["script"] 11 m_law_is_all_right := by
  obtain ⟨fd, F, gl⟩ := T.f_law_is_all_right
  exact .of F gl (fun _ _ _ _ _ _ us hl => match us, hl with | [_], _ => rfl) (fg_law_is_all_right T F)
theorem sc_law : FnScope ["script"] ["script"] (defScope (top 53)) := ⟨by kernel_rfl, by kernel_rfl, by kernel_rfl, by decide +kernel, rfl, by decide +kernel, by decide +kernel⟩
theorem fg_law (T : Zx K mg base) {fd : FuncData} (F : FunD K "law" "law" (defArgs (top 53)) (defBody (top 53)) (defScope (top 53)) [] [] (He.ga K "law") fd) : FnG true P wd K mg base 12 (He.ga K "law") fd ["script"] (spD K mg 1 m_law) := by
  have sc := sc_law
  refine fnG_of F sc fun cdv A fr s H E hcv room hgd tk => ?_
  exact (ds_one (ds_thru fun tk => (ds_one (ds_ret (d_call (ok_law_is_all_right T) (room.mono (by decide)) hgd tk rfl (da_cons (d_var (pv 0)) da_nil) (cnt_cons cnt_nil))))))
theorem ok_law (T : Zx K mg base) : DefG true P wd K mg base "law" ["script"] 12 m_law := by
  obtain ⟨fd, F, gl⟩ := T.f_law
  exact .of F gl (fun _ _ _ _ _ _ us hl => match us, hl with | [_], _ => rfl) (fg_law T F)
end
end K02
namespace K02
open PySem PySem.Spec PyProof.Rows L2 DL
open H02 (top init fa fn ex tb)
theorem codes_ok {K : PySem.W.Frag} {mg : Str → Option Value} {h : Heap} (S : Says fa fn ex tb K h) (G : h.Ns mainGlobals mg) : ∀ p ∈ codes K, h.get? p.2 = some (PySem.W.tabObj #[]) ∧ K.lookup p.2 = none ∧ PySem.W.CodeHd h p.1 p.2 := by
  letI : TabsOf := ⟨[]⟩
  have T : Fx K mg := ⟨h, S, G⟩
  intro p hp
  unfold codes at hp
  simp only [List.mem_cons, List.not_mem_nil, or_false] at hp
  rcases hp with rfl
  · obtain ⟨c, P, h1, h2, h3, h4⟩ := S.t "_law_are_refused" (by decide)
    have e := T.tab_law_are_refused.symm.trans h1
    cases e' : tabOf_law_are_refused K
    rw [e'] at e
    cases e
    exact ⟨h3, h4, h2⟩
end K02
open PySem PySem.W PySem.Calls PyProof.Rows
theorem PySem.Challenge.cw_everyquantity_k02_products_powers_and_su_holds : PySem.Challenge.rw_everyquantity_k02_products_powers_and_su.Holds := by
  w_on; o_law
  refine HandSHeadRun.head_imp (r := OpenLaw.row PySem.Challenge.rw_everyquantity_k02_products_powers_and_su) (q := view (OpenLaw.row PySem.Challenge.rw_everyquantity_k02_products_powers_and_su).prog [53]) (H := H02.hk) (ob := H02.ob) (M := 4000) (loose := H02.loose) (d := HandSHeadRun.topDef (OpenLaw.row PySem.Challenge.rw_everyquantity_k02_products_powers_and_su).prog 53) (kwd := []) H02.ob_eq
    H02.run (by kernel_rfl) (by kernel_rfl) (by kernel_rfl) (by rfl) (by first | assumption | decide +kernel) (by decide +kernel) ⟨rfl, rfl, rfl, rfl, rfl, by decide +kernel⟩ ?hw ?hc
  case hw => w_witness2
  case hc =>
    refine DL.walk_ofG (l := PySem.Challenge.rw_everyquantity_k02_products_powers_and_su) (n := 63) (k := 12) (x := "script") rfl (by decide) (by kernel_rfl) ⟨rfl, by decide, by decide⟩ ?F
    intro w mg f h Y G hmg0
    obtain ⟨K, S⟩ := Y
    have hmg : mg ("law" : PySem.Str) = some (.ref f) := by
      have e : (HandSHeadRun.topDef (OpenLaw.row PySem.Challenge.rw_everyquantity_k02_products_powers_and_su).prog 53).name = ("law" : PySem.Str) := by kernel_rfl
      rw [← e]
      exact hmg0
    letI inst : DL.TabsOf := ⟨K02.tabsT K⟩
    have T : K02.Fx K mg := ⟨h, S, G⟩
    obtain ⟨fd, F, gl⟩ := T.f_law
    have e := hmg.symm.trans gl
    cases e
    have cs := K02.codes_ok S G
    refine ⟨K, fd, K02.codes K, inst, K02.m_law, S.kin, fun p hp => (cs p hp).1, fun p hp => (cs p hp).2.1, fun p hp => (cs p hp).2.2, fun p hp => ?_, DL.binds1 F (fun _ _ _ _ _ _ us hl => match us, hl with | [_], _ => rfl), fun ns hl hb => K02.plain_law ns hl hb, fun base kin ns tb => K02.fg_law ⟨T, rfl, tb⟩ F⟩
    have hp' : p ∈ K02.tabsT K := hp
    simp only [K02.tabsT, List.mem_cons, List.not_mem_nil, or_false] at hp'
    rcases hp' with rfl
    · simp [K02.codes]
