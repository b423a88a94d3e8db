import PyProof.Rows.All
import Wide.All
import OpenK.AllK
import Wide.FinOn
import HandS.ForMost
import HandS.Exc
import HandS.ExcOwn
import HandS.TryOnly
import HandS.CallSlots
import HandS.IsInst
import HandS.Wide
import HandS.StrMore
import HandS.Flow
import HandS.WordsExc
import HandS.ExcCtx
import HandS.HotCalls
import HandS.ExcIs
import HandS.ExcField
import HandS.More
import KE.KExcSuper
import KE.KExcIs
import HandS.Codes
import PySem.Challenge.RW_seamgraph_k07_faults_of_documents
set_option Elab.async false
set_option linter.all false
set_option maxRecDepth 100000
set_option maxHeartbeats 4000000
/-! MP0: data as trees, a small heap of mutable cells, and how both stand in the layer's abstract heap -/
namespace MP
open PySem PySem.Spec PyProof.Rows L2

inductive D where
  | non | bl (b : Bool) | int (i : Int) | str (s : List Nat)
  | tup (xs : List D) | lst (xs : List D) | scr (ns : List Int) | loc (n : Nat)

inductive Cell where
  | lst (xs : List D)
  | dct (kvs : List (Sum Int (List Nat) × D))
  | ins (c : Str) (fs : List (Str × D))
  | dead
def Cell.live : Cell → Bool
  | .dead => false
  | _ => true
abbrev MH := List Cell

structure Exn where
  cls : Str
  fld : Option (Str × D)

inductive Res (α : Type) where
  | ok (a : α) (I : MH)
  | err (x : Exn) (I : MH)
  | stuck
abbrev En := List (Option D)
abbrev EF := En → MH → Res D
abbrev TF := En → MH → Res Bool
abbrev AF := En → MH → Res (List D)
inductive SRes where
  | nx (ρ : En) (I : MH)
  | ret (d : D) (I : MH)
  | brk (ρ : En) (I : MH)
  | cnt (ρ : En) (I : MH)
  | err (x : Exn) (I : MH)
  | stuck
abbrev SF := En → MH → SRes
abbrev FF := List D → MH → Res D

def Res.bind {α β : Type} (r : Res α) (k : α → MH → Res β) : Res β :=
  match r with
  | .ok a I => k a I
  | .err x I => .err x I
  | .stuck => .stuck
def Res.bindS {α : Type} (r : Res α) (k : α → MH → SRes) : SRes :=
  match r with
  | .ok a I => k a I
  | .err x I => .err x I
  | .stuck => .stuck

/-! ### the relation -/
def toS (s : List Nat) : Str := ⟨s.toArray⟩
def Live (μ : List Addr) (I : MH) (a : Addr) : Prop := ∃ (n : Nat) (c : Cell), μ[n]? = some a ∧ I[n]? = some c ∧ c.live = true

/-- the script: locked, or of the written part -/
def ScrAt (K : PySem.W.Frag) (H : Hp) (a : Addr) (xs : List V) : Prop := (∃ o, H a = some (.frz o (.lst xs))) ∨
  ∃ (o : Obj) (its : Array Value) (n : Nat), K.lookup a = some o ∧ o.cls = .type "list" ∧ o.dict = none ∧ o.data = .seq its n ∧ its.size ≤ sizeLine ∧ Vals xs its.toList
theorem ScrAt.sql {K : PySem.W.Frag} {H : Hp} {a : Addr} {xs : List V} (h : ScrAt K H a xs) : SqL K H a xs := by
  rcases h with ⟨o, h⟩ | h
  · exact .inl (.inr ⟨o, h⟩)
  · exact .inr h
section
variable (K : PySem.W.Frag) (L : Addr → Prop) (μ : List Addr) (H : Hp)
mutual
def RepV : D → V → Prop
  | .non, v => v = .non
  | .bl b, v => v = .bl b
  | .int i, v => v = .int i
  | .str s, v => v = .str (toS s)
  | .tup xs, v => ∃ a vs, v = .ref a ∧ SqT K H a vs ∧ RepVs xs vs
  | .lst xs, v => ∃ a vs, v = .ref a ∧ H a = some (.lst vs) ∧ ¬ L a ∧ RepVs xs vs
  | .scr ns, v => ∃ a, v = .ref a ∧ ScrAt K H a (ns.map V.int)
  | .loc n, v => ∃ a, v = .ref a ∧ μ[n]? = some a
def RepVs : List D → List V → Prop
  | [], vs => vs = []
  | d :: ds, vs => ∃ v r, vs = v :: r ∧ RepV d v ∧ RepVs ds r
end
end

def RepK : Sum Int (List Nat) → Key → Prop
  | .inl i, k => k = .inl i
  | .inr s, k => k = .inr (toS s)
/-- a list of pairs -/
def RepP {α β : Type} (R : α → β → Prop) (S : D → V → Prop) : List (α × D) → List (β × V) → Prop
  | [], vs => vs = []
  | (k, d) :: ds, vs => ∃ k' v r, vs = (k', v) :: r ∧ R k k' ∧ S d v ∧ RepP R S ds r

abbrev RV (K : PySem.W.Frag) (μ : List Addr) (I : MH) (H : Hp) : D → V → Prop := RepV K (Live μ I) μ H
abbrev RVs (K : PySem.W.Frag) (μ : List Addr) (I : MH) (H : Hp) : List D → List V → Prop := RepVs K (Live μ I) μ H

def CellOk (K : PySem.W.Frag) (mg : Str → Option Value) (μ : List Addr) (I : MH) (H : Hp) (a : Addr) : Cell → Prop
  | .lst xs => ∃ vs, H a = some (.lst vs) ∧ RVs K μ I H xs vs
  | .dct kvs => ∃ ks, H a = some (.dK ks) ∧ RepP RepK (RV K μ I H) kvs ks
  | .ins c fs => ∃ C dx gs, mg c = some (.ref C) ∧ H a = some (.ins C dx gs) ∧ RepP (fun x y => x = y) (RV K μ I H) fs gs
  | .dead => True

structure Ok (K : PySem.W.Frag) (mg : Str → Option Value) (μ : List Addr) (I : MH) (H : Hp) : Prop where
  len : μ.length = I.length
  inj : ∀ (n m : Nat) (a : Addr) (c c' : Cell), μ[n]? = some a → μ[m]? = some a → I[n]? = some c → I[m]? = some c' → c.live = true → c'.live = true → n = m
  cell : ∀ (n : Nat) (c : Cell) (a : Addr), I[n]? = some c → μ[n]? = some a → CellOk K mg μ I H a c

structure Ext (μ : List Addr) (I : MH) (H : Hp) (μ' : List Addr) (I' : MH) (H' : Hp) : Prop where
  pre : ∀ (n : Nat) (a : Addr), μ[n]? = some a → μ'[n]? = some a
  keep : ∀ a o, H a = some o → ¬ Live μ I a → H' a = some o
  live : ∀ a, Live μ' I' a → Live μ I a ∨ H a = none

section
variable {K : PySem.W.Frag} {mg : Str → Option Value} {μ μ' μ'' : List Addr} {I I' I'' : MH} {H H' H'' : Hp}

theorem Ext.refl : Ext μ I H μ I H := ⟨fun _ _ h => h, fun _ _ h _ => h, fun _ h => .inl h⟩
theorem Ext.trans (a : Ext μ I H μ' I' H') (b : Ext μ' I' H' μ'' I'' H'') : Ext μ I H μ'' I'' H'' := by
  refine ⟨fun n x h => b.pre n x (a.pre n x h), fun x o h nl => ?_, fun x h => ?_⟩
  · refine b.keep x o (a.keep x o h nl) fun l => ?_
    rcases a.live x l with l | l
    · exact nl l
    · rw [h] at l; cases l
  · rcases b.live x h with l | l
    · exact a.live x l
    · cases q : H x with
      | none => exact .inr rfl
      | some o =>
        refine .inl (Classical.byContradiction fun nl => ?_)
        rw [a.keep x o q nl] at l; cases l

theorem CellOk.there {a : Addr} {c : Cell} (h : CellOk K mg μ I H a c) (hl : c.live = true) : ∃ o, H a = some o ∧ (∀ xs, o ≠ .tup xs) ∧ (∀ ob u, o ≠ .frz ob u) := by
  cases c with
  | lst xs => obtain ⟨vs, e, _⟩ := h; exact ⟨_, e, (by intro _ z; cases z), (by intro _ _ z; cases z)⟩
  | dct kvs => obtain ⟨vs, e, _⟩ := h; exact ⟨_, e, (by intro _ z; cases z), (by intro _ _ z; cases z)⟩
  | ins c fs => obtain ⟨C, dx, gs, _, e, _⟩ := h; exact ⟨_, e, (by intro _ z; cases z), (by intro _ _ z; cases z)⟩
  | dead => cases hl
theorem Ok.notLive (ok : Ok K mg μ I H) {a : Addr} {xs : List V} (h : H a = some (.tup xs)) : ¬ Live μ I a := by
  rintro ⟨n, c, h1, h2, h3⟩
  obtain ⟨o, e, q, _⟩ := (ok.cell n c a h2 h1).there h3
  rw [h] at e; cases e
  exact q xs rfl
theorem Ok.notLiveF (ok : Ok K mg μ I H) {a : Addr} {ob : Obj} {u : HO} (h : H a = some (.frz ob u)) : ¬ Live μ I a := by
  rintro ⟨n, c, h1, h2, h3⟩
  obtain ⟨o, e, _, q⟩ := (ok.cell n c a h2 h1).there h3
  rw [h] at e; cases e
  exact q ob u rfl
theorem Ok.liveSome (ok : Ok K mg μ I H) {a : Addr} (h : Live μ I a) : H a ≠ none := by
  obtain ⟨n, c, h1, h2, h3⟩ := h
  obtain ⟨o, e, _⟩ := (ok.cell n c a h2 h1).there h3
  rw [e]; simp
theorem Ext.sqt (e : Ext μ I H μ' I' H') (ok : Ok K mg μ I H) {a : Addr} {vs : List V} (h : SqT K H a vs) : SqT K H' a vs := by
  rcases h with (h | ⟨o, h⟩) | h
  · exact .inl (.inl (e.keep a _ h (ok.notLive h)))
  · exact .inl (.inr ⟨o, e.keep a _ h (ok.notLiveF h)⟩)
  · exact .inr h
mutual
theorem RepV.ext (e : Ext μ I H μ' I' H') (ok : Ok K mg μ I H) : ∀ (d : D) (v : V), RV K μ I H d v → RV K μ' I' H' d v
  | .non, _, h => h
  | .bl _, _, h => h
  | .int _, _, h => h
  | .str _, _, h => h
  | .tup xs, v, h => by
    obtain ⟨a, vs, h1, h2, h3⟩ := h
    exact ⟨a, vs, h1, e.sqt ok h2, RepVs.ext e ok xs vs h3⟩
  | .lst xs, v, h => by
    obtain ⟨a, vs, h1, h2, h3, h4⟩ := h
    have nn : H a ≠ none := by rw [h2]; simp
    refine ⟨a, vs, h1, e.keep a _ h2 h3, fun l => ?_, RepVs.ext e ok xs vs h4⟩
    rcases e.live a l with l | l
    · exact h3 l
    · exact nn l
  | .scr ns, v, h => by
    obtain ⟨a, h1, h2⟩ := h
    refine ⟨a, h1, ?_⟩
    rcases h2 with ⟨o, h2⟩ | h2
    · exact .inl ⟨o, e.keep a _ h2 (ok.notLiveF h2)⟩
    · exact .inr h2
  | .loc n, v, h => by
    obtain ⟨a, h1, h2⟩ := h
    exact ⟨a, h1, e.pre n a h2⟩
theorem RepVs.ext (e : Ext μ I H μ' I' H') (ok : Ok K mg μ I H) : ∀ (ds : List D) (vs : List V), RVs K μ I H ds vs → RVs K μ' I' H' ds vs
  | [], _, h => h
  | d :: ds, vs, h => by
    obtain ⟨v, r, h1, h2, h3⟩ := h
    exact ⟨v, r, h1, RepV.ext e ok d v h2, RepVs.ext e ok ds r h3⟩
end
theorem RepP.mono {α β : Type} {R : α → β → Prop} {S S' : D → V → Prop} : ∀ {ds : List (α × D)} {vs : List (β × V)}, RepP R S ds vs → (∀ d v, S d v → S' d v) → RepP R S' ds vs
  | [], _, h, _ => h
  | (k, d) :: ds, vs, h, f => by
    obtain ⟨k', v, r, h1, h2, h3, h4⟩ := h
    exact ⟨k', v, r, h1, h2, f _ _ h3, RepP.mono h4 f⟩
theorem RepP.length {α β : Type} {R : α → β → Prop} {S : D → V → Prop} : ∀ {ds : List (α × D)} {vs : List (β × V)}, RepP R S ds vs → ds.length = vs.length
  | [], _, h => by cases h; rfl
  | (k, d) :: ds, vs, h => by
    obtain ⟨k', v, r, rfl, _, _, h4⟩ := h
    simp [RepP.length h4]
theorem RVs.length : ∀ {ds : List D} {vs : List V} {L : Addr → Prop}, RepVs K L μ H ds vs → ds.length = vs.length
  | [], _, _, h => by cases h; rfl
  | d :: ds, vs, _, h => by
    obtain ⟨v, r, rfl, _, h3⟩ := h
    simp [RVs.length h3]
theorem RVs.get {L : Addr → Prop} : ∀ {ds : List D} {vs : List V} {i : Nat} {d : D}, RepVs K L μ H ds vs → ds[i]? = some d → ∃ v, vs[i]? = some v ∧ RepV K L μ H d v
  | [], _, i, d, _, e => by simp at e
  | d :: ds, vs, 0, d', h, e => by
    obtain ⟨v, r, rfl, h2, h3⟩ := h
    simp at e; subst e
    exact ⟨v, rfl, h2⟩
  | d :: ds, vs, i + 1, d', h, e => by
    obtain ⟨v, r, rfl, h2, h3⟩ := h
    exact RVs.get (i := i) h3 (by simpa using e)
theorem RVs.getV {L : Addr → Prop} : ∀ {ds : List D} {vs : List V} {i : Nat} {v : V}, RepVs K L μ H ds vs → vs[i]? = some v → ∃ d, ds[i]? = some d ∧ RepV K L μ H d v
  | [], _, i, d, h, e => by cases h; simp at e
  | d :: ds, vs, 0, v', h, e => by
    obtain ⟨v, r, rfl, h2, h3⟩ := h
    simp at e; subst e
    exact ⟨d, rfl, h2⟩
  | d :: ds, vs, i + 1, v', h, e => by
    obtain ⟨v, r, rfl, h2, h3⟩ := h
    exact RVs.getV (i := i) h3 (by simpa using e)
theorem RVs.append {L : Addr → Prop} : ∀ {ds es : List D} {vs ws : List V}, RepVs K L μ H ds vs → RepVs K L μ H es ws → RepVs K L μ H (ds ++ es) (vs ++ ws)
  | [], _, _, _, h, h' => by cases h; exact h'
  | d :: ds, es, vs, ws, h, h' => by
    obtain ⟨v, r, rfl, h2, h3⟩ := h
    exact ⟨v, r ++ ws, rfl, h2, RVs.append h3 h'⟩
theorem RVs.take {L : Addr → Prop} : ∀ {ds : List D} {vs : List V} (n : Nat), RepVs K L μ H ds vs → RepVs K L μ H (ds.take n) (vs.take n)
  | _, _, 0, _ => by rw [List.take_zero, List.take_zero]; rfl
  | [], _, n + 1, h => by cases h; rfl
  | d :: ds, vs, n + 1, h => by
    obtain ⟨v, r, rfl, h2, h3⟩ := h
    exact ⟨v, r.take n, rfl, h2, RVs.take n h3⟩
theorem RVs.drop {L : Addr → Prop} : ∀ {ds : List D} {vs : List V} (n : Nat), RepVs K L μ H ds vs → RepVs K L μ H (ds.drop n) (vs.drop n)
  | _, _, 0, h => h
  | [], _, n + 1, h => by cases h; rfl
  | d :: ds, vs, n + 1, h => by
    obtain ⟨v, r, rfl, h2, h3⟩ := h
    exact RVs.drop n h3
theorem RVs.set {L : Addr → Prop} {d : D} {v : V} (h0 : RepV K L μ H d v) : ∀ {ds : List D} {vs : List V} (i : Nat), RepVs K L μ H ds vs → RepVs K L μ H (ds.set i d) (vs.set i v)
  | [], _, _, h => by cases h; exact rfl
  | e :: ds, vs, 0, h => by
    obtain ⟨w, r, rfl, h2, h3⟩ := h
    exact ⟨v, r, rfl, h0, h3⟩
  | e :: ds, vs, i + 1, h => by
    obtain ⟨w, r, rfl, h2, h3⟩ := h
    exact ⟨w, r.set i v, rfl, h2, RVs.set h0 i h3⟩

theorem CellOk.ext (e : Ext μ I H μ' I' H') (ok : Ok K mg μ I H) {a : Addr} {c : Cell} (h : CellOk K mg μ I H a c) (ha : ∀ o, H a = some o → H' a = some o) : CellOk K mg μ' I' H' a c := by
  cases c with
  | lst xs => obtain ⟨vs, e1, r⟩ := h; exact ⟨vs, ha _ e1, RepVs.ext e ok _ _ r⟩
  | dct kvs => obtain ⟨vs, e1, r⟩ := h; exact ⟨vs, ha _ e1, r.mono fun d v q => RepV.ext e ok d v q⟩
  | ins c fs => obtain ⟨C, dx, gs, e0, e1, r⟩ := h; exact ⟨C, dx, gs, e0, ha _ e1, r.mono fun d v q => RepV.ext e ok d v q⟩
  | dead => trivial

/-- all that was tracked is as it was -/
theorem Ext.same (hs : ∀ a o, H a = some o → H' a = some o) : Ext μ I H μ I H' := ⟨fun _ _ h => h, fun a o h _ => hs a o h, fun _ h => .inl h⟩
theorem Ok.same (ok : Ok K mg μ I H) (hs : ∀ a o, H a = some o → H' a = some o) : Ok K mg μ I H' :=
  ⟨ok.len, ok.inj, fun n c a h1 h2 => (ok.cell n c a h1 h2).ext (Ext.same hs) ok (hs a)⟩
theorem same_upd {p : Addr} {o : HO} (h : H p = none) : ∀ a u, H a = some u → upd H p o a = some u := fun a u q => by rw [upd_ne (ne_of_none q h)]; exact q

/-- a new cell -/
theorem Ok.alloc (ok : Ok K mg μ I H) {p : Addr} {c : Cell} (hp : H p = none) (hs : ∀ a o, H a = some o → H' a = some o)
    (hc : Ext μ I H (μ ++ [p]) (I ++ [c]) H' → CellOk K mg (μ ++ [p]) (I ++ [c]) H' p c) : Ext μ I H (μ ++ [p]) (I ++ [c]) H' ∧ Ok K mg (μ ++ [p]) (I ++ [c]) H' := by
  have hl := ok.len
  have nlt : ∀ n a, μ[n]? = some a → n < μ.length := fun n a h => (List.getElem?_eq_some_iff.mp h).1
  have E : Ext μ I H (μ ++ [p]) (I ++ [c]) H' := by
    refine ⟨fun n a h => by rw [List.getElem?_append_left (nlt n a h)]; exact h, fun a o h _ => hs a o h, ?_⟩
    rintro a ⟨n, c', h1, h2, h3⟩
    by_cases hn : n < μ.length
    · rw [List.getElem?_append_left hn] at h1
      rw [List.getElem?_append_left (by omega)] at h2
      exact .inl ⟨n, c', h1, h2, h3⟩
    · rw [List.getElem?_append_right (by omega)] at h1
      have e0 : n - μ.length = 0 := by
        obtain ⟨q, _⟩ := List.getElem?_eq_some_iff.mp h1
        simp at q; omega
      rw [e0] at h1
      simp at h1
      subst h1
      exact .inr hp
  refine ⟨E, by simp [hl], ?_, ?_⟩
  · intro n m a c1 c2 h1 h2 h3 h4 l1 l2
    have key : ∀ (n : Nat) (c1 : Cell), (μ ++ [p])[n]? = some a → (I ++ [c])[n]? = some c1 → c1.live = true → (n < μ.length ∧ μ[n]? = some a ∧ I[n]? = some c1) ∨ (n = μ.length ∧ a = p) := by
      intro n c1 g1 g2 g3
      by_cases hn : n < μ.length
      · rw [List.getElem?_append_left hn] at g1
        rw [List.getElem?_append_left (by omega)] at g2
        exact .inl ⟨hn, g1, g2⟩
      · have e0 : n = μ.length := by
          obtain ⟨q, _⟩ := List.getElem?_eq_some_iff.mp g1
          simp at q; omega
        subst e0
        simp at g1
        exact .inr ⟨rfl, g1.symm⟩
    have old : ∀ (n : Nat) (c1 : Cell), μ[n]? = some a → I[n]? = some c1 → c1.live = true → a ≠ p := by
      intro n c1 g1 g2 g3 z
      exact ok.liveSome ⟨n, c1, g1, g2, g3⟩ (by rw [z]; exact hp)
    rcases key n c1 h1 h3 l1 with ⟨_, a1, a2⟩ | ⟨a1, a2⟩
    · rcases key m c2 h2 h4 l2 with ⟨_, b1, b2⟩ | ⟨b1, b2⟩
      · exact ok.inj n m a c1 c2 a1 b1 a2 b2 l1 l2
      · exact absurd b2 (old n c1 a1 a2 l1)
    · rcases key m c2 h2 h4 l2 with ⟨_, b1, b2⟩ | ⟨b1, b2⟩
      · exact absurd a2 (old m c2 b1 b2 l2)
      · rw [a1, b1]
  · intro n c' a h1 h2
    by_cases hn : n < μ.length
    · rw [List.getElem?_append_left (by omega)] at h1
      rw [List.getElem?_append_left hn] at h2
      exact (ok.cell n c' a h1 h2).ext E ok (hs a)
    · have e0 : n = μ.length := by
        obtain ⟨q, _⟩ := List.getElem?_eq_some_iff.mp h2
        simp at q; omega
      subst e0
      rw [hl, List.getElem?_append_right (Nat.le_refl _)] at h1
      simp at h1 h2
      subst h1 h2
      exact hc E

theorem live_set {n : Nat} {c : Cell} {a b : Addr} (ha : μ[n]? = some a) (h : Live μ (I.set n c) b) (hn : n < I.length) : (b = a ∧ c.live = true) ∨ ∃ (m : Nat) (c' : Cell), m ≠ n ∧ μ[m]? = some b ∧ I[m]? = some c' ∧ c'.live = true := by
  obtain ⟨m, c', h1, h2, h3⟩ := h
  by_cases hm : m = n
  · subst hm
    rw [ha] at h1; cases h1
    rw [List.getElem?_set_self hn] at h2; cases h2
    exact .inl ⟨rfl, h3⟩
  · rw [List.getElem?_set_ne (fun z => hm z.symm)] at h2
    exact .inr ⟨m, c', hm, h1, h2, h3⟩
/-- a cell is written -/
theorem Ok.write (ok : Ok K mg μ I H) {n : Nat} {a : Addr} {c c' : Cell} {o : HO} (ha : μ[n]? = some a) (hc : I[n]? = some c) (hl : c.live = true) (hl' : c'.live = true)
    (hn : Ext μ I H μ (I.set n c') (upd H a o) → CellOk K mg μ (I.set n c') (upd H a o) a c') : Ext μ I H μ (I.set n c') (upd H a o) ∧ Ok K mg μ (I.set n c') (upd H a o) := by
  have hlt : n < I.length := (List.getElem?_eq_some_iff.mp hc).1
  have la : Live μ I a := ⟨n, c, ha, hc, hl⟩
  have E : Ext μ I H μ (I.set n c') (upd H a o) := by
    refine ⟨fun _ _ h => h, fun b u h nl => ?_, fun b h => ?_⟩
    · rw [upd_ne (fun z => nl (by rw [z]; exact la))]
      exact h
    · rcases live_set ha h hlt with ⟨rfl, _⟩ | ⟨m, c1, _, h1, h2, h3⟩
      · exact .inl la
      · exact .inl ⟨m, c1, h1, h2, h3⟩
  refine ⟨E, by simp [ok.len], ?_, ?_⟩
  · intro m k b c1 c2 h1 h2 h3 h4 l1 l2
    have key : ∀ (m : Nat) (c1 : Cell), (I.set n c')[m]? = some c1 → c1.live = true → ∃ c2 : Cell, I[m]? = some c2 ∧ c2.live = true := by
      intro m c1 g1 g2
      by_cases hm : m = n
      · subst hm; exact ⟨c, hc, hl⟩
      · rw [List.getElem?_set_ne (fun z => hm z.symm)] at g1
        exact ⟨c1, g1, g2⟩
    obtain ⟨d1, x1, y1⟩ := key m c1 h3 l1
    obtain ⟨d2, x2, y2⟩ := key k c2 h4 l2
    exact ok.inj m k b d1 d2 h1 h2 x1 x2 y1 y2
  · intro m c1 b h1 h2
    by_cases hm : m = n
    · subst hm
      rw [List.getElem?_set_self hlt] at h1; cases h1
      rw [ha] at h2; cases h2
      exact hn E
    · rw [List.getElem?_set_ne (fun z => hm z.symm)] at h1
      by_cases hlv : c1.live = true
      · refine (ok.cell m c1 b h1 h2).ext E ok fun u q => ?_
        rw [upd_ne (fun z => hm (ok.inj m n b c1 c h2 (by rw [z]; exact ha) h1 hc hlv hl))]
        exact q
      · cases c1 <;> first | trivial | exact absurd rfl hlv
/-- a list's cell becomes data -/
theorem Ok.freeze (ok : Ok K mg μ I H) {n : Nat} {a : Addr} {xs : List D} (ha : μ[n]? = some a) (hc : I[n]? = some (.lst xs)) :
    Ext μ I H μ (I.set n .dead) H ∧ Ok K mg μ (I.set n .dead) H ∧ RV K μ (I.set n .dead) H (.lst xs) (.ref a) := by
  have hlt : n < I.length := (List.getElem?_eq_some_iff.mp hc).1
  have E : Ext μ I H μ (I.set n .dead) H := by
    refine ⟨fun _ _ h => h, fun b u h nl => h, fun b h => ?_⟩
    rcases live_set ha h hlt with ⟨_, z⟩ | ⟨m, c1, _, h1, h2, h3⟩
    · cases z
    · exact .inl ⟨m, c1, h1, h2, h3⟩
  obtain ⟨vs, e1, r⟩ := ok.cell n _ a hc ha
  refine ⟨E, ⟨by simp [ok.len], ?_, ?_⟩, a, vs, rfl, e1, fun l => ?_, RepVs.ext E ok _ _ r⟩
  · intro m k b c1 c2 h1 h2 h3 h4 l1 l2
    have key : ∀ (m : Nat) (c1 : Cell), (I.set n .dead)[m]? = some c1 → c1.live = true → I[m]? = some c1 := by
      intro m c1 g1 g2
      by_cases hm : m = n
      · subst hm
        rw [List.getElem?_set_self hlt] at g1; cases g1; cases g2
      · rw [List.getElem?_set_ne (fun z => hm z.symm)] at g1
        exact g1
    exact ok.inj m k b c1 c2 h1 h2 (key m c1 h3 l1) (key k c2 h4 l2) l1 l2
  · intro m c1 b h1 h2
    by_cases hm : m = n
    · subst hm
      rw [List.getElem?_set_self hlt] at h1; cases h1
      trivial
    · rw [List.getElem?_set_ne (fun z => hm z.symm)] at h1
      exact (ok.cell m c1 b h1 h2).ext E ok fun u q => q
  · rcases live_set ha l hlt with ⟨_, z⟩ | ⟨m, c1, hm, h1, h2, h3⟩
    · cases z
    · exact hm (ok.inj m n a c1 _ h1 ha h2 hc h3 rfl)
end

/-! ### cutting off what a call has left behind -/
mutual
def D.under (n : Nat) : D → Bool
  | .tup xs => unders n xs
  | .lst xs => unders n xs
  | .loc m => decide (m < n)
  | _ => true
def unders (n : Nat) : List D → Bool
  | [] => true
  | d :: ds => d.under n && unders n ds
end
def Cell.under (n : Nat) : Cell → Bool
  | .lst xs => unders n xs
  | .dct kvs => kvs.all fun p => p.2.under n
  | .ins _ fs => fs.all fun p => p.2.under n
  | .dead => true
/-- no cell below n has been given a cell above -/
def Tidy (n : Nat) (I I' : MH) : Prop := ∀ i c, i < n → I'[i]? = some c → I[i]? = some c ∨ c.under n = true
section
variable {K : PySem.W.Frag} {mg : Str → Option Value} {μ μ' : List Addr} {I I' : MH} {H H' : Hp}
mutual
theorem RepV.cut {n : Nat} : ∀ (d : D) (v : V), d.under n = true → RV K μ I H d v → RV K (μ.take n) (I.take n) H d v
  | .non, _, _, h => h
  | .bl _, _, _, h => h
  | .int _, _, _, h => h
  | .str _, _, _, h => h
  | .tup xs, v, b, h => by
    obtain ⟨a, vs, h1, h2, h3⟩ := h
    exact ⟨a, vs, h1, h2, RepVs.cut xs vs b h3⟩
  | .lst xs, v, b, h => by
    obtain ⟨a, vs, h1, h2, h3, h4⟩ := h
    refine ⟨a, vs, h1, h2, fun ⟨m, c, g1, g2, g3⟩ => h3 ⟨m, c, ?_, ?_, g3⟩, RepVs.cut xs vs b h4⟩
    · rw [List.getElem?_take] at g1
      split at g1
      · exact g1
      · cases g1
    · rw [List.getElem?_take] at g2
      split at g2
      · exact g2
      · cases g2
  | .scr ns, _, _, h => h
  | .loc m, v, b, h => by
    obtain ⟨a, h1, h2⟩ := h
    have b' : m < n := of_decide_eq_true b
    exact ⟨a, h1, by rw [List.getElem?_take_of_lt b']; exact h2⟩
theorem RepVs.cut {n : Nat} : ∀ (ds : List D) (vs : List V), unders n ds = true → RVs K μ I H ds vs → RVs K (μ.take n) (I.take n) H ds vs
  | [], _, _, h => h
  | d :: ds, vs, b, h => by
    obtain ⟨v, r, h1, h2, h3⟩ := h
    have b' := Bool.and_eq_true_iff.mp b
    exact ⟨v, r, h1, RepV.cut d v b'.1 h2, RepVs.cut ds r b'.2 h3⟩
end
mutual
theorem RepV.isBelow {L : Addr → Prop} : ∀ (d : D) (v : V), RepV K L μ H d v → d.under μ.length = true
  | .non, _, _ => rfl
  | .bl _, _, _ => rfl
  | .int _, _, _ => rfl
  | .str _, _, _ => rfl
  | .tup xs, v, h => by
    obtain ⟨a, vs, h1, h2, h3⟩ := h
    exact RepVs.isBelow xs vs h3
  | .lst xs, v, h => by
    obtain ⟨a, vs, h1, h2, h3, h4⟩ := h
    exact RepVs.isBelow xs vs h4
  | .scr ns, _, _ => rfl
  | .loc m, v, h => by
    obtain ⟨a, h1, h2⟩ := h
    exact decide_eq_true (List.getElem?_eq_some_iff.mp h2).1
theorem RepVs.isBelow {L : Addr → Prop} : ∀ (ds : List D) (vs : List V), RepVs K L μ H ds vs → unders μ.length ds = true
  | [], _, _ => rfl
  | d :: ds, vs, h => by
    obtain ⟨v, r, h1, h2, h3⟩ := h
    exact Bool.and_eq_true_iff.mpr ⟨RepV.isBelow d v h2, RepVs.isBelow ds r h3⟩
end
theorem RepP.all {α β : Type} {R : α → β → Prop} {S : D → V → Prop} {p : D → Bool} (f : ∀ d v, S d v → p d = true) : ∀ {ds : List (α × D)} {vs : List (β × V)}, RepP R S ds vs → (ds.all fun q => p q.2) = true
  | [], _, _ => rfl
  | (k, d) :: ds, vs, h => by
    obtain ⟨k', v, r, h1, h2, h3, h4⟩ := h
    rw [List.all_cons, f d v h3, RepP.all f h4]; rfl
theorem RepP.monoB {α β : Type} {R : α → β → Prop} {S S' : D → V → Prop} {p : D → Bool} : ∀ {ds : List (α × D)} {vs : List (β × V)}, RepP R S ds vs → (ds.all fun q => p q.2) = true → (∀ d v, p d = true → S d v → S' d v) → RepP R S' ds vs
  | [], _, h, _, _ => h
  | (k, d) :: ds, vs, h, b, f => by
    obtain ⟨k', v, r, h1, h2, h3, h4⟩ := h
    rw [List.all_cons] at b
    have b' := Bool.and_eq_true_iff.mp b
    exact ⟨k', v, r, h1, h2, f _ _ b'.1 h3, RepP.monoB h4 b'.2 f⟩
theorem CellOk.isBelow {a : Addr} {c : Cell} (h : CellOk K mg μ I H a c) : c.under μ.length = true := by
  cases c with
  | lst xs => obtain ⟨vs, _, r⟩ := h; exact RepVs.isBelow _ _ r
  | dct kvs => obtain ⟨vs, _, r⟩ := h; exact RepP.all (fun d v q => RepV.isBelow d v q) r
  | ins c fs => obtain ⟨C, dx, gs, _, _, r⟩ := h; exact RepP.all (fun d v q => RepV.isBelow d v q) r
  | dead => rfl
theorem CellOk.cut {n : Nat} {a : Addr} {c : Cell} (h : CellOk K mg μ I H a c) (b : c.under n = true) : CellOk K mg (μ.take n) (I.take n) H a c := by
  cases c with
  | lst xs => obtain ⟨vs, e, r⟩ := h; exact ⟨vs, e, RepVs.cut _ _ b r⟩
  | dct kvs => obtain ⟨vs, e, r⟩ := h; exact ⟨vs, e, r.monoB b fun d v p q => RepV.cut d v p q⟩
  | ins c fs => obtain ⟨C, dx, gs, e0, e, r⟩ := h; exact ⟨C, dx, gs, e0, e, r.monoB b fun d v p q => RepV.cut d v p q⟩
  | dead => trivial
/-- the cells that a call made are forgotten -/
theorem Ok.cut (ok : Ok K mg μ I H) (ok' : Ok K mg μ' I' H') (e : Ext μ I H μ' I' H') (t : Tidy I.length I I') :
    Ext μ I H (μ'.take I.length) (I'.take I.length) H' ∧ Ok K mg (μ'.take I.length) (I'.take I.length) H' := by
  have hl := ok.len
  have sub : ∀ a, Live (μ'.take I.length) (I'.take I.length) a → Live μ' I' a := by
    rintro a ⟨m, c, g1, g2, g3⟩
    refine ⟨m, c, ?_, ?_, g3⟩
    · rw [List.getElem?_take] at g1
      split at g1
      · exact g1
      · cases g1
    · rw [List.getElem?_take] at g2
      split at g2
      · exact g2
      · cases g2
  have E : Ext μ I H (μ'.take I.length) (I'.take I.length) H' := by
    refine ⟨fun n a h => ?_, e.keep, fun a h => e.live a (sub a h)⟩
    have := (List.getElem?_eq_some_iff.mp h).1
    rw [List.getElem?_take_of_lt (by omega)]
    exact e.pre n a h
  refine ⟨E, by simp [ok'.len], ?_, ?_⟩
  · intro n m a c c' h1 h2 h3 h4 l1 l2
    have tk : ∀ {α : Type} (l : List α) (n k : Nat) (x : α), (l.take k)[n]? = some x → l[n]? = some x := fun l n k x g => by
      rw [List.getElem?_take] at g
      split at g
      · exact g
      · cases g
    exact ok'.inj n m a c c' (tk _ _ _ _ h1) (tk _ _ _ _ h2) (tk _ _ _ _ h3) (tk _ _ _ _ h4) l1 l2
  · intro n c a h1 h2
    have hn : n < I.length := by
      have := (List.getElem?_eq_some_iff.mp h1).1
      rw [List.length_take] at this
      omega
    rw [List.getElem?_take_of_lt hn] at h1 h2
    have co := ok'.cell n c a h1 h2
    rcases t n c hn h1 with q | q
    · have hb : c.under I.length = true := by
        obtain ⟨a0, ha0⟩ : ∃ a0, μ[n]? = some a0 := ⟨μ[n]'(by omega), List.getElem?_eq_getElem (by omega)⟩
        rw [← hl]
        exact (ok.cell n c a0 q ha0).isBelow
      exact co.cut hb
    · exact co.cut q
end
end MP
/-! MP1: expressions: what a reading by trees is, and each form of expression by it -/
namespace MP
open PySem PySem.Spec L2

def RepR (K : PySem.W.Frag) (μ : List Addr) (I : MH) (H : Hp) (ρ : En) (σ : St) : Prop :=
  ρ.length = σ.length ∧ ∀ (i : Nat) (d : D), ρ[i]? = some (some d) → ∃ v, σ[i]? = some (some v) ∧ RV K μ I H d v
def RepX (K : PySem.W.Frag) (mg : Str → Option Value) (μ : List Addr) (I : MH) (H : Hp) (x : Exn) (cls : Value) (dd : Option Addr) : Prop :=
  ∃ C, mg x.cls = some (.ref C) ∧ cls = .ref C ∧ match x.fld with
    | none => dd = none
    | some (f, d) => ∃ a v, dd = some a ∧ H a = some (.xd [(f, v)]) ∧ RV K μ I H d v
def RPost (K : PySem.W.Frag) (mg : Str → Option Value) (W : Value → Option Addr → Hp → Prop) (μ : List Addr) (I : MH) (H : Hp) {α : Type} (S : List Addr → MH → Hp → α → Prop) : Res α → Prop
  | .ok a I' => ∀ μ' H', Ext μ I H μ' I' H' → Ok K mg μ' I' H' → S μ' I' H' a
  | .err x I' => ∀ μ' H' c dd, Ext μ I H μ' I' H' → Ok K mg μ' I' H' → RepX K mg μ' I' H' x c dd → W c dd H'
  | .stuck => False
abbrev W0 : Value → Option Addr → Hp → Prop := fun _ _ _ => False
section
variable {K : PySem.W.Frag} {mg : Str → Option Value} {μ μ' μ'' : List Addr} {I I' I'' : MH} {H H' H'' : Hp}
theorem RepR.ext (e : Ext μ I H μ' I' H') (ok : Ok K mg μ I H) {ρ : En} {σ : St} (r : RepR K μ I H ρ σ) : RepR K μ' I' H' ρ σ :=
  ⟨r.1, fun i d h => let ⟨v, h1, h2⟩ := r.2 i d h; ⟨v, h1, RepV.ext e ok d v h2⟩⟩
theorem RPost.ext {W : Value → Option Addr → Hp → Prop} {α : Type} {S : List Addr → MH → Hp → α → Prop} (e : Ext μ I H μ' I' H') {r : Res α} (p : RPost K mg W μ I H S r) : RPost K mg W μ' I' H' S r := by
  cases r with
  | ok a I2 => exact fun μ2 H2 e2 ok2 => p μ2 H2 (e.trans e2) ok2
  | err x I2 => exact fun μ2 H2 c dd e2 ok2 => p μ2 H2 c dd (e.trans e2) ok2
  | stuck => exact p
theorem RPost.imp {W W' : Value → Option Addr → Hp → Prop} {α : Type} {S S' : List Addr → MH → Hp → α → Prop} {r : Res α} (p : RPost K mg W μ I H S r)
    (hs : ∀ μ' I' H' a, Ext μ I H μ' I' H' → Ok K mg μ' I' H' → S μ' I' H' a → S' μ' I' H' a) (hw : ∀ c d H', W c d H' → W' c d H') : RPost K mg W' μ I H S' r := by
  cases r with
  | ok a I2 => exact fun μ2 H2 e2 ok2 => hs _ _ _ _ e2 ok2 (p μ2 H2 e2 ok2)
  | err x I2 => exact fun μ2 H2 c dd e2 ok2 rx => hw _ _ _ (p μ2 H2 c dd e2 ok2 rx)
  | stuck => exact p
theorem RPost.bind {W : Value → Option Addr → Hp → Prop} {α β : Type} {S : List Addr → MH → Hp → β → Prop} {r : Res α} {k : α → MH → Res β} (p : RPost K mg W μ I H S (r.bind k)) :
    RPost K mg W μ I H (fun μ' I' H' a => RPost K mg W μ' I' H' S (k a I')) r := by
  cases r with
  | ok a I2 => exact fun μ2 H2 e2 ok2 => RPost.ext (r := k a I2) e2 p
  | err x I2 => exact p
  | stuck => exact p
end

section
variable (X : Cx) (W : WX)
def sE (Q : VK) : List Addr → MH → Hp → D → Prop := fun μ' I' H' d => ∀ v, RV X.K μ' I' H' d v → Q v H'
def tE (f : EF) : TE := fun σ H Q => ∃ μ ρ I, RepR X.K μ I H ρ σ ∧ Ok X.K X.mg μ I H ∧ RPost X.K X.mg (fun c dd H' => W c dd σ H') μ I H (sE X Q) (f ρ I)
def tT (f : TF) : TT := fun σ H Q => ∃ μ ρ I, RepR X.K μ I H ρ σ ∧ Ok X.K X.mg μ I H ∧ RPost X.K X.mg (fun c dd H' => W c dd σ H') μ I H (fun _ _ H' b => Q b H') (f ρ I)
def tA (f : AF) : TA := fun σ H Q => ∃ μ ρ I, RepR X.K μ I H ρ σ ∧ Ok X.K X.mg μ I H ∧ RPost X.K X.mg (fun c dd H' => W c dd σ H') μ I H (fun μ' I' H' ds => ∀ vs, RVs X.K μ' I' H' ds vs → Q vs H') (f ρ I)
abbrev SE (e : Expr) (f : EF) : Prop := PE X e (tE X W f)
abbrev ST (e : Expr) (f : TF) : Prop := PT X e (tT X W f)
abbrev SA (es : List Expr) (f : AF) : Prop := PA X es (tA X W f)
end
theorem pe_weak {X : Cx} {e : Expr} {t t' : TE} (h : PE X e t) (m : ∀ σ H Q, t' σ H Q → t σ H Q) : PE X e t' := ⟨fun pins s σ H Q I q => h.run pins s σ H Q I (m σ H Q q)⟩
theorem pt_weak {X : Cx} {e : Expr} {t t' : TT} (h : PT X e t) (m : ∀ σ H Q, t' σ H Q → t σ H Q) : PT X e t' := ⟨fun pins s σ H Q I q => h.run pins s σ H Q I (m σ H Q q)⟩
theorem pa_weak {X : Cx} {e : List Expr} {t t' : TA} (h : PA X e t) (m : ∀ σ H Q, t' σ H Q → t σ H Q) : PA X e t' := ⟨fun pos pins s σ H Q I q => h.run pos pins s σ H Q I (m σ H Q q)⟩

section
variable {X : Cx} {W : WX} {σ : St} {H : Hp} {μ : List Addr} {ρ : En} {I : MH}
/-- what stands behind the first part -/
theorem then_E {f : EF} {β : Type} {k : D → MH → Res β} {S : List Addr → MH → Hp → β → Prop} {R : VK} (rr : RepR X.K μ I H ρ σ) (ok : Ok X.K X.mg μ I H)
    (p : RPost X.K X.mg (fun c dd H' => W c dd σ H') μ I H S ((f ρ I).bind k))
    (h : ∀ μ1 I1 H1 d v, Ext μ I H μ1 I1 H1 → RepR X.K μ1 I1 H1 ρ σ → Ok X.K X.mg μ1 I1 H1 → RV X.K μ1 I1 H1 d v → RPost X.K X.mg (fun c dd H' => W c dd σ H') μ1 I1 H1 S (k d I1) → R v H1) : tE X W f σ H R :=
  ⟨μ, ρ, I, rr, ok, (RPost.bind p).imp (fun μ1 I1 H1 d e ok1 q v rv => h μ1 I1 H1 d v e (rr.ext e ok) ok1 rv q) fun _ _ _ z => z⟩
theorem then_A {f : AF} {β : Type} {k : List D → MH → Res β} {S : List Addr → MH → Hp → β → Prop} {R : List V → Hp → Prop} (rr : RepR X.K μ I H ρ σ) (ok : Ok X.K X.mg μ I H)
    (p : RPost X.K X.mg (fun c dd H' => W c dd σ H') μ I H S ((f ρ I).bind k))
    (h : ∀ μ1 I1 H1 d v, Ext μ I H μ1 I1 H1 → RepR X.K μ1 I1 H1 ρ σ → Ok X.K X.mg μ1 I1 H1 → RVs X.K μ1 I1 H1 d v → RPost X.K X.mg (fun c dd H' => W c dd σ H') μ1 I1 H1 S (k d I1) → R v H1) : tA X W f σ H R :=
  ⟨μ, ρ, I, rr, ok, (RPost.bind p).imp (fun μ1 I1 H1 d e ok1 q v rv => h μ1 I1 H1 d v e (rr.ext e ok) ok1 rv q) fun _ _ _ z => z⟩
theorem then_T {f : TF} {β : Type} {k : Bool → MH → Res β} {S : List Addr → MH → Hp → β → Prop} {R : Bool → Hp → Prop} (rr : RepR X.K μ I H ρ σ) (ok : Ok X.K X.mg μ I H)
    (p : RPost X.K X.mg (fun c dd H' => W c dd σ H') μ I H S ((f ρ I).bind k))
    (h : ∀ μ1 I1 H1 b, Ext μ I H μ1 I1 H1 → RepR X.K μ1 I1 H1 ρ σ → Ok X.K X.mg μ1 I1 H1 → RPost X.K X.mg (fun c dd H' => W c dd σ H') μ1 I1 H1 S (k b I1) → R b H1) : tT X W f σ H R :=
  ⟨μ, ρ, I, rr, ok, (RPost.bind p).imp (fun μ1 I1 H1 d e ok1 q => h μ1 I1 H1 d e (rr.ext e ok) ok1 q) fun _ _ _ z => z⟩
end

/-! ### operations by values -/
/-- nothing is raised -/
def rS1 (X : Cx) (g : D → MH → Res D) : V → Hp → VK → Prop := fun x H Q => ∃ μ I d, Ok X.K X.mg μ I H ∧ RV X.K μ I H d x ∧ RPost X.K X.mg W0 μ I H (sE X Q) (g d I)
def rS2 (X : Cx) (g : D → D → MH → Res D) : R2 := fun x y H Q => ∃ μ I d e, Ok X.K X.mg μ I H ∧ RV X.K μ I H d x ∧ RV X.K μ I H e y ∧ RPost X.K X.mg W0 μ I H (sE X Q) (g d e I)
def rSn (X : Cx) (g : List D → MH → Res D) : List V → Hp → VK → Prop := fun xs H Q => ∃ μ I ds, Ok X.K X.mg μ I H ∧ RVs X.K μ I H ds xs ∧ RPost X.K X.mg W0 μ I H (sE X Q) (g ds I)
def rSt (X : Cx) (g : D → MH → Res Bool) : V → Hp → (Bool → Hp → Prop) → Prop := fun x H Q => ∃ μ I d, Ok X.K X.mg μ I H ∧ RV X.K μ I H d x ∧ RPost X.K X.mg W0 μ I H (fun _ _ H' b => Q b H') (g d I)
/-- not raised -/
def Res.calm {α : Type} : Res α → Res α
  | .err _ _ => .stuck
  | r => r
theorem RPost.calm {K : PySem.W.Frag} {mg : Str → Option Value} {W : Value → Option Addr → Hp → Prop} {μ : List Addr} {I : MH} {H : Hp} {α : Type} {S : List Addr → MH → Hp → α → Prop} {r : Res α} (p : RPost K mg W μ I H S r.calm) : RPost K mg W0 μ I H S r := by
  cases r with
  | ok a I2 => exact p
  | err x I2 => exact p.elim
  | stuck => exact p

/-- the items of what may be read by place: a list, a tuple, the script -/
def seqOf (I : MH) : D → Option (List D)
  | .lst xs => some xs
  | .tup xs => some xs
  | .scr ns => some (ns.map .int)
  | .loc n => match I[n]? with
    | some (.lst xs) => some xs
    | _ => none
  | _ => none
def lstOf (I : MH) : D → Option (List D)
  | .lst xs => some xs
  | .loc n => match I[n]? with
    | some (.lst xs) => some xs
    | _ => none
  | _ => none
section
variable {K : PySem.W.Frag} {mg : Str → Option Value} {μ : List Addr} {I : MH} {H : Hp}
theorem lstOf_ok (ok : Ok K mg μ I H) {d : D} {v : V} {xs : List D} (r : RV K μ I H d v) (h : lstOf I d = some xs) : ∃ a vs, v = .ref a ∧ H a = some (.lst vs) ∧ RVs K μ I H xs vs := by
  cases d with
  | lst ys =>
    obtain ⟨a, vs, h1, h2, _, h3⟩ := r
    cases h
    exact ⟨a, vs, h1, h2, h3⟩
  | loc n =>
    obtain ⟨a, h1, h2⟩ := r
    unfold lstOf at h
    dsimp only at h
    split at h
    · rename_i ys e
      cases h
      obtain ⟨vs, e1, e2⟩ := ok.cell n _ a e h2
      exact ⟨a, vs, h1, e1, e2⟩
    · cases h
  | _ => cases h
theorem rvs_ints (ns : List Int) : RVs K μ I H (ns.map .int) (ns.map V.int) := by
  induction ns with
  | nil => exact rfl
  | cons n r ih => exact ⟨_, _, rfl, rfl, ih⟩
theorem seqOf_ok (ok : Ok K mg μ I H) {d : D} {v : V} {xs : List D} (r : RV K μ I H d v) (h : seqOf I d = some xs) : ∃ a vs, v = .ref a ∧ (SqL K H a vs ∨ SqT K H a vs) ∧ RVs K μ I H xs vs := by
  cases d with
  | tup ys =>
    obtain ⟨a, vs, h1, h2, h3⟩ := r
    cases h
    exact ⟨a, vs, h1, .inr h2, h3⟩
  | scr ns =>
    obtain ⟨a, h1, h2⟩ := r
    cases h
    exact ⟨a, _, h1, .inl h2.sql, rvs_ints ns⟩
  | lst ys =>
    obtain ⟨a, vs, h1, h2, h3⟩ := lstOf_ok ok r (xs := xs) h
    exact ⟨a, vs, h1, .inl (SqL.of h2), h3⟩
  | loc n =>
    obtain ⟨a, vs, h1, h2, h3⟩ := lstOf_ok ok r (xs := xs) h
    exact ⟨a, vs, h1, .inl (SqL.of h2), h3⟩
  | _ => cases h
end

def ok' {α : Type} (I : MH) (a : α) : Res α := .ok a I
def optR {α : Type} (I : MH) : Option α → Res α
  | some a => .ok a I
  | none => .stuck
def small (n : Nat) : Bool := decide (n ≤ sizeLine)

def addD (x y : D) (I : MH) : Res D :=
  match x, y with
  | .int i, .int j => .ok (.int (i + j)) I
  | .str a, .str b => if small (a.length + b.length) then .ok (.str (a ++ b)) I else .stuck
  | .tup xs, .tup ys => if small (xs.length + ys.length) && !xs.isEmpty then .ok (.tup (xs ++ ys)) I else .stuck
  | x, y => match lstOf I x, lstOf I y with
    | some xs, some ys => if small (xs.length + ys.length) then .ok (.lst (xs ++ ys)) I else .stuck
    | _, _ => .stuck
def subD (x y : D) (I : MH) : Res D :=
  match x, y with
  | .int i, .int j => .ok (.int (i - j)) I
  | _, _ => .stuck
def mulD (x y : D) (I : MH) : Res D :=
  match x, y with
  | .int i, .int j => if decide (-(2 ^ 64) < i ∧ i < 2 ^ 64) || decide (-(2 ^ 64) < j ∧ j < 2 ^ 64) then .ok (.int (i * j)) I else .stuck
  | _, _ => .stuck
def fdivD (x y : D) (I : MH) : Res D :=
  match x, y with
  | .int i, .int j => if decide (0 < j ∧ j < 2 ^ 64) then .ok (.int (i / j)) I else .stuck
  | _, _ => .stuck
def modD (x y : D) (I : MH) : Res D :=
  match x, y with
  | .int i, .int j => if decide (0 < j) then .ok (.int (i % j)) I else .stuck
  | _, _ => .stuck
def powD (x y : D) (I : MH) : Res D :=
  match x, y with
  | .int i, .int j => if decide (0 ≤ j ∧ j ≤ 1000000 ∧ i.natAbs < 2 ^ 64) then .ok (.int (i ^ j.toNat)) I else .stuck
  | _, _ => .stuck
def shlD (x y : D) (I : MH) : Res D :=
  match x, y with
  | .int i, .int j => if decide (0 ≤ j ∧ j ≤ 1000000 ∧ i.natAbs < 2 ^ 64) then .ok (.int (i * 2 ^ j.toNat)) I else .stuck
  | _, _ => .stuck
def cmpI (p : Int → Int → Bool) (x y : D) (I : MH) : Res D :=
  match x, y with
  | .int i, .int j => .ok (.bl (p i j)) I
  | _, _ => .stuck
def binD : Operator → Option (D → D → MH → Res D)
  | .Add => some addD
  | .Sub => some subD
  | .Mult => some mulD
  | .FloorDiv => some fdivD
  | .Mod => some modD
  | .Pow => some powD
  | .LShift => some shlD
  | _ => none

section
variable {X : Cx} {pins : List (Addr × Obj)} {s : Shared} {σ : St} {H : Hp} {Q : VK} {μ : List Addr} {I : MH} {v u : Value}
theorem fin0 {d : D} {w : V} {W : Value → Option Addr → Hp → Prop} (ok : Ok X.K X.mg μ I H) (p : RPost X.K X.mg W μ I H (sE X Q) (.ok d I)) (r : RV X.K μ I H d w) : Q w H := p μ H Ext.refl ok w r
theorem fin1 {d : D} {w : V} {H' : Hp} {W : Value → Option Addr → Hp → Prop} (ok : Ok X.K X.mg μ I H) (p : RPost X.K X.mg W μ I H (sE X Q) (.ok d I)) (hs : ∀ a o, H a = some o → H' a = some o) (r : RV X.K μ I H' d w) : Q w H' := p μ H' (Ext.same hs) (ok.same hs) w r
theorem rvs_same {H' : Hp} (ok : Ok X.K X.mg μ I H) (hs : ∀ a o, H a = some o → H' a = some o) {ds : List D} {vs : List V} (r : RVs X.K μ I H ds vs) : RVs X.K μ I H' ds vs := RepVs.ext (Ext.same hs) ok _ _ r
theorem rv_same {H' : Hp} (ok : Ok X.K X.mg μ I H) (hs : ∀ a o, H a = some o → H' a = some o) {ds : D} {vs : V} (r : RV X.K μ I H ds vs) : RV X.K μ I H' ds vs := RepV.ext (Ext.same hs) ok _ _ r
/-- a new tuple at p -/
theorem rv_tup {p : Addr} {xs : List D} {vs : List V} (ok : Ok X.K X.mg μ I H) (hp : H p = none) (r : RVs X.K μ I H xs vs) : RV X.K μ I (upd H p (.tup vs)) (.tup xs) (.ref p) :=
  ⟨p, vs, rfl, SqT.of upd_same, rvs_same ok (same_upd hp) r⟩
theorem rv_lst {p : Addr} {xs : List D} {vs : List V} (ok : Ok X.K X.mg μ I H) (hp : H p = none) (r : RVs X.K μ I H xs vs) : RV X.K μ I (upd H p (.lst vs)) (.lst xs) (.ref p) :=
  ⟨p, vs, rfl, upd_same, fun l => ok.liveSome l hp, rvs_same ok (same_upd hp) r⟩
end
theorem toS_append (a b : List Nat) : toS a ++ toS b = toS (a ++ b) := by
  show (⟨a.toArray ++ b.toArray⟩ : Str) = ⟨(a ++ b).toArray⟩
  simp
theorem toS_length (a : List Nat) : (toS a).length = a.length := by simp [toS, Str.length]
theorem toS_inj {a b : List Nat} (h : toS a = toS b) : a = b := by
  have e : a.toArray = b.toArray := congrArg Str.cps h
  simpa using e

section
variable {X : Cx}
theorem add_ok : OpR X (binaryOp .Add) (rS2 X addD) := by
  intro pins s σ H x y v u Q Iv rx ry ⟨μ, I, d, e, ok, rd, re, p⟩
  unfold addD at p
  split at p
  · cases rd; cases re
    exact op_add pins s σ H _ _ v u Q Iv rx ry ⟨_, _, rfl, rfl, fin0 ok p rfl⟩
  · split at p
    · rename_i h
      cases rd; cases re
      refine op_add_str pins s σ H _ _ v u Q Iv rx ry ⟨_, _, rfl, rfl, ?_, ?_⟩
      · rw [toS_length, toS_length]; exact of_decide_eq_true h
      · rw [toS_append]; exact fin0 ok p rfl
    · exact p.elim
  · split at p
    · rename_i h
      have h' := Bool.and_eq_true_iff.mp h
      obtain ⟨a, vs, rfl, q1, r1⟩ := rd
      obtain ⟨b, ws, rfl, q2, r2⟩ := re
      have l1 := RVs.length r1
      have l2 := RVs.length r2
      have ne : vs ≠ [] := fun z => by
        rw [z] at l1
        have e0 := List.length_eq_zero_iff.mp l1
        rw [e0] at h'
        exact absurd h'.2 (by simp)
      refine op_catT pins s σ H _ _ v u Q Iv rx ry ⟨a, b, vs, ws, rfl, rfl, q1, q2, ne, ?_, ?_⟩
      · rw [← l1, ← l2]; exact of_decide_eq_true h'.1
      · by_cases hw : ws = []
        · refine ⟨fun _ => ?_, fun z => absurd hw z⟩
          refine fin0 ok p ⟨a, vs, rfl, q1, ?_⟩
          rw [hw] at l2
          have e0 := List.length_eq_zero_iff.mp l2
          rw [e0, List.append_nil]
          exact r1
        · refine ⟨fun z => absurd z hw, fun _ q hq => ?_⟩
          exact fin1 ok p (same_upd hq) (rv_tup ok hq (RVs.append r1 r2))
    · exact p.elim
  · split at p
    · rename_i xs ys e1 e2
      split at p
      · rename_i h
        obtain ⟨a, vs, rfl, q1, r1⟩ := lstOf_ok ok rd e1
        obtain ⟨b, ws, rfl, q2, r2⟩ := lstOf_ok ok re e2
        have l1 := RVs.length r1
        have l2 := RVs.length r2
        refine op_cat pins s σ H _ _ v u Q Iv rx ry ⟨a, b, vs, ws, rfl, rfl, q1, q2, ?_, fun q hq => ?_⟩
        · rw [← l1, ← l2]; exact of_decide_eq_true h
        · exact fin1 ok p (same_upd hq) (rv_lst ok hq (RVs.append r1 r2))
      · exact p.elim
    · exact p.elim
end
end MP
/-! MP2: operations by values -/
namespace MP
open PySem PySem.Spec L2
section
variable {X : Cx}
theorem two_I {op : Value → Value → Sem Value} {g : D → D → MH → Res D} {C : Int → Int → Prop} {k : Int → Int → V} {kd : Int → Int → D}
    (hop : OpR X op (rI C k)) (hk : ∀ K μ I H i j, RV K μ I H (kd i j) (k i j))
    (hg : ∀ x y I, (∃ i j, x = .int i ∧ y = .int j ∧ C i j ∧ g x y I = .ok (kd i j) I) ∨ g x y I = .stuck) : OpR X op (rS2 X g) := by
  intro pins s σ H x y v u Q Iv rx ry ⟨μ, I, d, e, ok, rd, re, p⟩
  rcases hg d e I with ⟨i, j, rfl, rfl, c, h⟩ | h
  · rw [h] at p
    cases rd; cases re
    exact hop pins s σ H _ _ v u Q Iv rx ry ⟨_, _, rfl, rfl, c, fin0 ok p (hk _ _ _ _ _ _)⟩
  · rw [h] at p; exact p.elim
theorem two_I0 {op : Value → Value → Sem Value} {g : D → D → MH → Res D} {k : Int → Int → V} {kd : Int → Int → D}
    (hop : OpR X op (rI0 k)) (hk : ∀ K μ I H i j, RV K μ I H (kd i j) (k i j))
    (hg : ∀ x y I, (∃ i j, x = .int i ∧ y = .int j ∧ g x y I = .ok (kd i j) I) ∨ g x y I = .stuck) : OpR X op (rS2 X g) := by
  intro pins s σ H x y v u Q Iv rx ry ⟨μ, I, d, e, ok, rd, re, p⟩
  rcases hg d e I with ⟨i, j, rfl, rfl, h⟩ | h
  · rw [h] at p
    cases rd; cases re
    exact hop pins s σ H _ _ v u Q Iv rx ry ⟨_, _, rfl, rfl, fin0 ok p (hk _ _ _ _ _ _)⟩
  · rw [h] at p; exact p.elim
theorem sub_ok : OpR X (binaryOp .Sub) (rS2 X subD) := two_I0 (kd := fun i j => .int (i - j)) op_sub (fun _ _ _ _ _ _ => rfl) fun x y I => by
  unfold subD; split
  · exact .inl ⟨_, _, rfl, rfl, rfl⟩
  · exact .inr rfl
theorem mul_ok : OpR X (binaryOp .Mult) (rS2 X mulD) := two_I (kd := fun i j => .int (i * j)) op_mul (fun _ _ _ _ _ _ => rfl) fun x y I => by
  unfold mulD; split
  · split
    · rename_i h
      refine .inl ⟨_, _, rfl, rfl, ?_, rfl⟩
      rcases Bool.or_eq_true_iff.mp h with h | h
      · exact .inl (of_decide_eq_true h)
      · exact .inr (of_decide_eq_true h)
    · exact .inr rfl
  · exact .inr rfl
theorem fdiv_ok : OpR X (binaryOp .FloorDiv) (rS2 X fdivD) := two_I (kd := fun i j => .int (i / j)) op_fdivW (fun _ _ _ _ _ _ => rfl) fun x y I => by
  unfold fdivD; split
  · split
    · rename_i h
      have h' := of_decide_eq_true h
      exact .inl ⟨_, _, rfl, rfl, wide_div (b := 64) h'.1 (by omega) (by decide) (by decide), rfl⟩
    · exact .inr rfl
  · exact .inr rfl
theorem mod_ok : OpR X (binaryOp .Mod) (rS2 X modD) := two_I (kd := fun i j => .int (i % j)) op_mod (fun _ _ _ _ _ _ => rfl) fun x y I => by
  unfold modD; split
  · split
    · rename_i h
      exact .inl ⟨_, _, rfl, rfl, of_decide_eq_true h, rfl⟩
    · exact .inr rfl
  · exact .inr rfl
theorem pow_ok : OpR X (binaryOp .Pow) (rS2 X powD) := two_I (kd := fun i j => .int (i ^ j.toNat)) op_pow (fun _ _ _ _ _ _ => rfl) fun x y I => by
  unfold powD; split
  · split
    · rename_i h
      have h' := of_decide_eq_true h
      exact .inl ⟨_, _, rfl, rfl, ⟨h'.1, h'.2.1, h'.2.2⟩, rfl⟩
    · exact .inr rfl
  · exact .inr rfl
theorem shl_ok : OpR X (binaryOp .LShift) (rS2 X shlD) := two_I (kd := fun i j => .int (i * 2 ^ j.toNat)) op_shl (fun _ _ _ _ _ _ => rfl) fun x y I => by
  unfold shlD; split
  · split
    · rename_i h
      have h' := of_decide_eq_true h
      exact .inl ⟨_, _, rfl, rfl, ⟨h'.1, h'.2.1, h'.2.2⟩, rfl⟩
    · exact .inr rfl
  · exact .inr rfl
theorem bin_ok {op : Operator} {g : D → D → MH → Res D} (h : binD op = some g) : OpR X (binaryOp op) (rS2 X g) := by
  cases op <;> first
    | (cases h; exact add_ok) | (cases h; exact sub_ok) | (cases h; exact mul_ok) | (cases h; exact fdiv_ok) | (cases h; exact mod_ok) | (cases h; exact pow_ok) | (cases h; exact shl_ok)
    | cases h
end

/-! ### equality -/
mutual
def eqvD : D → D → Bool
  | .non, .non => true
  | .bl a, .bl b => a == b
  | .bl a, .int j => (if a then 1 else 0) == j
  | .int i, .bl b => i == (if b then 1 else 0)
  | .int i, .int j => i == j
  | .str x, .str y => x == y
  | .lst xs, .lst ys => eqvDs xs ys
  | .tup xs, .tup ys => eqvDs xs ys
  | _, _ => false
def eqvDs : List D → List D → Bool
  | [], [] => true
  | x :: xs, y :: ys => eqvD x y && eqvDs xs ys
  | _, _ => false
end
mutual
def shp : Nat → D → Bool
  | _, .str s => PyData.strOk (toS s)
  | n + 1, .tup xs => shps n xs
  | n + 1, .lst xs => shps n xs
  | _, .non => true
  | _, .bl _ => true
  | _, .int _ => true
  | _, _ => false
def shps : Nat → List D → Bool
  | _, [] => true
  | n, x :: xs => shp n x && shps n xs
end
mutual
def toPy : D → PyData
  | .non => .none
  | .bl b => .bool b
  | .int i => .int i
  | .str s => .str (toS s)
  | .tup xs => .tuple (toPys xs)
  | .lst xs => .list (toPys xs)
  | .scr _ => .dict []
  | .loc _ => .dict []
def toPys : List D → List PyData
  | [] => []
  | x :: xs => toPy x :: toPys xs
end
mutual
theorem shp_ok : ∀ (n : Nat) (d : D), shp n d = true → (toPy d).canLay0 = true ∧ (toPy d).depth ≤ n
  | n, .non, _ => by simp [toPy, PyData.canLay0, PyData.depth]
  | n, .bl _, _ => by simp [toPy, PyData.canLay0, PyData.depth]
  | n, .int _, _ => by simp [toPy, PyData.canLay0, PyData.depth]
  | n, .str s, h => by
    refine ⟨?_, by simp [toPy, PyData.depth]⟩
    show PyData.canLay0 (.str (toS s)) = true
    unfold PyData.canLay0
    cases n <;> exact h
  | 0, .tup xs, h => by cases h
  | n + 1, .tup xs, h => by
    have q := shps_ok n xs h
    exact ⟨by show PyData.canLay0 (.tuple (toPys xs)) = true; unfold PyData.canLay0; exact q.1, by show PyData.depth (.tuple (toPys xs)) ≤ _; unfold PyData.depth; omega⟩
  | 0, .lst xs, h => by cases h
  | n + 1, .lst xs, h => by
    have q := shps_ok n xs h
    exact ⟨by show PyData.canLay0 (.list (toPys xs)) = true; unfold PyData.canLay0; exact q.1, by show PyData.depth (.list (toPys xs)) ≤ _; unfold PyData.depth; omega⟩
  | n, .scr _, h => by cases n <;> cases h
  | n, .loc _, h => by cases n <;> cases h
theorem shps_ok : ∀ (n : Nat) (ds : List D), shps n ds = true → PyData.canLayAll0 (toPys ds) = true ∧ PyData.depthAll (toPys ds) ≤ n
  | n, [], _ => ⟨by unfold toPys PyData.canLayAll0; rfl, by unfold toPys PyData.depthAll; omega⟩
  | n, d :: ds, h => by
    have h' := Bool.and_eq_true_iff.mp (show (shp n d && shps n ds) = true by cases n <;> exact h)
    have q1 := shp_ok n d h'.1
    have q2 := shps_ok n ds h'.2
    exact ⟨by unfold toPys PyData.canLayAll0; rw [q1.1, q2.1]; rfl, by unfold toPys PyData.depthAll; omega⟩
end

theorem toS_beq (a b : List Nat) : (toS a == toS b) = (a == b) := by
  by_cases h : a = b
  · subst h; simp
  · have : ¬ toS a = toS b := fun z => h (toS_inj z)
    rw [beq_eq_false_iff_ne.mpr h, beq_eq_false_iff_ne.mpr this]
mutual
theorem eqv_toPy : ∀ (n m : Nat) (x y : D), shp n x = true → shp m y = true → PyData.eqv (toPy x) (toPy y) = eqvD x y
  | _, _, .non, y, _, _ => by cases y <;> simp [toPy, PyData.eqv, eqvD] <;> rfl
  | _, _, .bl _, y, _, _ => by cases y <;> simp [toPy, PyData.eqv, eqvD] <;> rfl
  | _, _, .int _, y, _, _ => by cases y <;> simp [toPy, PyData.eqv, eqvD] <;> rfl
  | _, _, .str a, y, _, _ => by
    cases y with
    | str b => show PyData.eqv (.str (toS a)) (.str (toS b)) = eqvD (.str a) (.str b); unfold PyData.eqv eqvD; exact toS_beq a b
    | _ => simp [toPy, PyData.eqv, eqvD] <;> rfl
  | n, m, .tup xs, y, h1, h2 => by
    cases n with
    | zero => cases h1
    | succ n =>
      cases y with
      | tup ys =>
        cases m with
        | zero => cases h2
        | succ m =>
          show PyData.eqv (.tuple (toPys xs)) (.tuple (toPys ys)) = eqvD (.tup xs) (.tup ys)
          unfold PyData.eqv eqvD
          exact eqv_toPys n m xs ys h1 h2
      | _ => simp [toPy, PyData.eqv, eqvD] <;> rfl
  | n, m, .lst xs, y, h1, h2 => by
    cases n with
    | zero => cases h1
    | succ n =>
      cases y with
      | lst ys =>
        cases m with
        | zero => cases h2
        | succ m =>
          show PyData.eqv (.list (toPys xs)) (.list (toPys ys)) = eqvD (.lst xs) (.lst ys)
          unfold PyData.eqv eqvD
          exact eqv_toPys n m xs ys h1 h2
      | _ => simp [toPy, PyData.eqv, eqvD] <;> rfl
  | n, _, .scr _, _, h, _ => by cases n <;> cases h
  | n, _, .loc _, _, h, _ => by cases n <;> cases h
theorem eqv_toPys : ∀ (n m : Nat) (xs ys : List D), shps n xs = true → shps m ys = true → PyData.eqvAll (toPys xs) (toPys ys) = eqvDs xs ys
  | _, _, [], [], _, _ => by simp [toPys, PyData.eqvAll, eqvDs]
  | _, _, [], _ :: _, _, _ => by simp [toPys, PyData.eqvAll, eqvDs]
  | _, _, _ :: _, [], _, _ => by simp [toPys, PyData.eqvAll, eqvDs]
  | n, m, x :: xs, y :: ys, h1, h2 => by
    have a := Bool.and_eq_true_iff.mp (show (shp n x && shps n xs) = true by cases n <;> exact h1)
    have b := Bool.and_eq_true_iff.mp (show (shp m y && shps m ys) = true by cases m <;> exact h2)
    show PyData.eqvAll (toPy x :: toPys xs) (toPy y :: toPys ys) = eqvDs (x :: xs) (y :: ys)
    unfold PyData.eqvAll eqvDs
    rw [eqv_toPy n m x y a.1 b.1, eqv_toPys n m xs ys a.2 b.2]
end
mutual
theorem rep_dp {K : PySem.W.Frag} {L : Addr → Prop} {μ : List Addr} {H : Hp} : ∀ (n : Nat) (d : D) (v : V), shp n d = true → RepV K L μ H d v → Dp K H v (toPy d)
  | _, .non, _, _, r => by cases r; exact .non
  | _, .bl b, _, _, r => by cases r; exact .bl b
  | _, .int i, _, _, r => by cases r; exact .int i
  | _, .str s, _, _, r => by cases r; exact .str _
  | n, .tup xs, v, h, r => by
    obtain ⟨a, vs, rfl, q, rs⟩ := r
    cases n with
    | zero => cases h
    | succ n => exact .tup q (reps_dp n xs vs h rs)
  | n, .lst xs, v, h, r => by
    obtain ⟨a, vs, rfl, q, _, rs⟩ := r
    cases n with
    | zero => cases h
    | succ n => exact .lst (SqL.of q) (reps_dp n xs vs h rs)
  | n, .scr _, _, h, _ => by cases n <;> cases h
  | n, .loc _, _, h, _ => by cases n <;> cases h
theorem reps_dp {K : PySem.W.Frag} {L : Addr → Prop} {μ : List Addr} {H : Hp} : ∀ (n : Nat) (ds : List D) (vs : List V), shps n ds = true → RepVs K L μ H ds vs → DpAll K H vs (toPys ds)
  | _, [], _, _, r => by cases r; exact .nil
  | n, d :: ds, vs, h, r => by
    obtain ⟨v, t, rfl, r1, r2⟩ := r
    have a := Bool.and_eq_true_iff.mp (show (shp n d && shps n ds) = true by cases n <;> exact h)
    exact .cons (rep_dp n d v a.1 r1) (reps_dp n ds t a.2 r2)
end
/-- the pairs that == tells apart without looking inside -/
def scalD : D → D → Bool
  | .bl _, .int _ => false
  | .int _, .bl _ => false
  | .non, .non => true | .non, .int _ => true | .int _, .non => true | .non, .bl _ => true | .bl _, .non => true | .non, .str _ => true | .str _, .non => true
  | .int _, .int _ => true | .bl _, .bl _ => true | .str _, .str _ => true
  | .int _, .str _ => true | .str _, .int _ => true | .bl _, .str _ => true | .str _, .bl _ => true
  | _, _ => false
def cmpable (x y : D) : Bool := scalD x y || (shp 64 x && shp 64 y)
def eqD (x y : D) (I : MH) : Res D := if cmpable x y then .ok (.bl (eqvD x y)) I else .stuck
def neD (x y : D) (I : MH) : Res D := if cmpable x y then .ok (.bl (!eqvD x y)) I else .stuck
section
variable {X : Cx} {K : PySem.W.Frag} {μ : List Addr} {I : MH} {H : Hp}
theorem scal_rep {d e : D} {x y : V} (h : scalD d e = true) (rd : RV K μ I H d x) (re : RV K μ I H e y) : scal x y = true ∧ decide (x = y) = eqvD d e := by
  cases d <;> cases e <;> first
    | (cases h; done)
    | (cases rd; cases re; refine ⟨rfl, ?_⟩; unfold eqvD; exact dec_bl)
    | (cases rd; cases re; refine ⟨rfl, ?_⟩; unfold eqvD; exact dec_int)
    | (cases rd; cases re; refine ⟨rfl, ?_⟩; unfold eqvD; exact dec_str.trans (toS_beq _ _))
    | (cases rd; cases re; refine ⟨rfl, ?_⟩; simp [eqvD]; done)
theorem eq_ok (hu : X.A.units + 64 < cLine) : OpR X (compareOp .Eq) (rS2 X eqD) := by
  intro pins s σ H x y v u Q Iv rx ry ⟨μ, I, d, e, ok, rd, re, p⟩
  unfold eqD at p
  split at p
  · rename_i h
    unfold cmpable at h
    cases hsc : scalD d e with
    | true =>
      obtain ⟨h1, h2⟩ := scal_rep hsc rd re
      refine op_eq pins s σ H x y v u Q Iv rx ry ⟨h1, ?_⟩
      rw [h2]
      exact fin0 ok p rfl
    | false =>
      rw [hsc, Bool.false_or] at h
      have h' := Bool.and_eq_true_iff.mp h
      have a := shp_ok 64 d h'.1
      have b := shp_ok 64 e h'.2
      refine op_eqD hu pins s σ H x y v u Q Iv rx ry ⟨toPy d, toPy e, rep_dp 64 d x h'.1 rd, rep_dp 64 e y h'.2 re, ?_, ?_, ?_⟩
      · exact Bool.and_eq_true_iff.mpr ⟨a.1, decide_eq_true a.2⟩
      · exact Bool.and_eq_true_iff.mpr ⟨b.1, decide_eq_true b.2⟩
      · rw [eqv_toPy 64 64 d e h'.1 h'.2]
        exact fin0 ok p rfl
  · exact p.elim
theorem ne_ok (hu : X.A.units + 64 < cLine) : OpR X (compareOp .NotEq) (rS2 X neD) := by
  intro pins s σ H x y v u Q Iv rx ry ⟨μ, I, d, e, ok, rd, re, p⟩
  unfold neD at p
  split at p
  · rename_i h
    unfold cmpable at h
    cases hsc : scalD d e with
    | true =>
      obtain ⟨h1, h2⟩ := scal_rep hsc rd re
      refine op_ne pins s σ H x y v u Q Iv rx ry ⟨h1, ?_⟩
      rw [h2]
      exact fin0 ok p rfl
    | false =>
      rw [hsc, Bool.false_or] at h
      have h' := Bool.and_eq_true_iff.mp h
      have a := shp_ok 64 d h'.1
      have b := shp_ok 64 e h'.2
      refine op_neD hu pins s σ H x y v u Q Iv rx ry ⟨toPy d, toPy e, rep_dp 64 d x h'.1 rd, rep_dp 64 e y h'.2 re, ?_, ?_, ?_⟩
      · exact Bool.and_eq_true_iff.mpr ⟨a.1, decide_eq_true a.2⟩
      · exact Bool.and_eq_true_iff.mpr ⟨b.1, decide_eq_true b.2⟩
      · rw [eqv_toPy 64 64 d e h'.1 h'.2]
        exact fin0 ok p rfl
  · exact p.elim
end
/-! ### the other comparisons -/
def isFlat : D → Bool
  | .non => true | .bl _ => true | .int _ => true | .str _ => true
  | _ => false
def inB (neg : Bool) (x y : D) (I : MH) : Res D :=
  match x, y with
  | .str [c], .str s => .ok (.bl (if neg then !decide (c ∈ s) else decide (c ∈ s))) I
  | x, y => match seqOf I y with
    | some ys => if isFlat x && ys.all isFlat then .ok (.bl (if neg then !(ys.any fun y => eqvD y x) else ys.any fun y => eqvD y x)) I else .stuck
    | none => .stuck
def isB (neg : Bool) (x y : D) (I : MH) : Res D :=
  match y with
  | .non => match x with
    | .non => .ok (.bl (!neg)) I
    | _ => .ok (.bl neg) I
  | _ => .stuck
def ltS (x y : D) (I : MH) : Res D :=
  match x, y with
  | .int i, .int j => .ok (.bl (decide (i < j))) I
  | .str a, .str b => .ok (.bl (decide (a < b))) I
  | _, _ => .stuck
def leS (x y : D) (I : MH) : Res D :=
  match x, y with
  | .int i, .int j => .ok (.bl (decide (i ≤ j))) I
  | .str a, .str b => .ok (.bl (!decide (b < a))) I
  | _, _ => .stuck
def cmpD : CmpOp → Option (D → D → MH → Res D)
  | .Eq => some eqD
  | .NotEq => some neD
  | .Lt => some ltS
  | .LtE => some leS
  | .Gt => some (cmpI fun i j => decide (j < i))
  | .GtE => some (cmpI fun i j => decide (j ≤ i))
  | .Is => some (isB false)
  | .IsNot => some (isB true)
  | .In => some (inB false)
  | .NotIn => some (inB true)
section
variable {X : Cx} {K : PySem.W.Frag} {μ : List Addr} {I : MH} {H : Hp}
theorem flat_rep {d : D} {v : V} (h : isFlat d = true) (r : RV K μ I H d v) : flatV v = true := by
  cases d <;> first | (cases h; done) | (cases r; rfl)
theorem flat_reps : ∀ {ds : List D} {vs : List V}, ds.all isFlat = true → RVs K μ I H ds vs → vs.all flatV = true
  | [], _, _, r => by cases r; rfl
  | d :: ds, vs, h, r => by
    obtain ⟨v, t, rfl, r1, r2⟩ := r
    rw [List.all_cons] at h ⊢
    have h' := Bool.and_eq_true_iff.mp h
    rw [flat_rep h'.1 r1, flat_reps h'.2 r2]; rfl
theorem flat_eq {d e : D} {x y : V} (h1 : isFlat d = true) (h2 : isFlat e = true) (rd : RV K μ I H d x) (re : RV K μ I H e y) : eqV x y = eqvD d e := by
  cases d <;> cases e <;> first
    | (cases h1; done)
    | (cases h2; done)
    | (cases rd; cases re; unfold eqV eqvD; rfl)
    | (cases rd; cases re; unfold eqV eqvD; exact toS_beq _ _)
theorem flat_any {d : D} {x : V} (h1 : isFlat d = true) (rd : RV K μ I H d x) : ∀ {ds : List D} {vs : List V}, ds.all isFlat = true → RVs K μ I H ds vs → (vs.any fun y => eqV y x) = ds.any fun y => eqvD y d
  | [], _, _, r => by cases r; rfl
  | e :: ds, vs, h, r => by
    obtain ⟨v, t, rfl, r1, r2⟩ := r
    rw [List.all_cons] at h
    have h' := Bool.and_eq_true_iff.mp h
    rw [List.any_cons, List.any_cons, flat_eq h'.1 h1 r1 rd, flat_any h1 rd h'.2 r2]
theorem in_ok : OpR X (compareOp .In) (rS2 X (inB false)) := by
  intro pins s σ H x y v u Q Iv rx ry ⟨μ, I, d, e, ok, rd, re, p⟩
  unfold inB at p
  split at p
  · cases rd; cases re
    exact op_in_sign pins s σ H _ _ v u Q Iv rx ry ⟨_, _, rfl, rfl, fin0 ok p rfl⟩
  · split at p
    · rename_i ys e1
      split at p
      · rename_i h
        have h' := Bool.and_eq_true_iff.mp h
        obtain ⟨a, vs, rfl, q1, r1⟩ := seqOf_ok ok re e1
        refine op_in_seq pins s σ H _ _ v u Q Iv rx ry ⟨a, vs, rfl, q1, flat_rep h'.1 rd, flat_reps h'.2 r1, fin0 ok p ?_⟩
        show V.bl (inV x vs) = V.bl (ys.any fun y => eqvD y d)
        exact congrArg V.bl (flat_any h'.1 rd h'.2 r1)
      · exact p.elim
    · exact p.elim
theorem notIn_ok : OpR X (compareOp .NotIn) (rS2 X (inB true)) := by
  intro pins s σ H x y v u Q Iv rx ry ⟨μ, I, d, e, ok, rd, re, p⟩
  unfold inB at p
  split at p
  · cases rd; cases re
    exact op_notIn_sign pins s σ H _ _ v u Q Iv rx ry ⟨_, _, rfl, rfl, fin0 ok p rfl⟩
  · split at p
    · rename_i ys e1
      split at p
      · rename_i h
        have h' := Bool.and_eq_true_iff.mp h
        obtain ⟨a, vs, rfl, q1, r1⟩ := seqOf_ok ok re e1
        refine op_notIn_seq pins s σ H _ _ v u Q Iv rx ry ⟨a, vs, rfl, q1, flat_rep h'.1 rd, flat_reps h'.2 r1, fin0 ok p ?_⟩
        show V.bl (!inV x vs) = V.bl (!(ys.any fun y => eqvD y d))
        exact congrArg (fun b => V.bl (!b)) (flat_any h'.1 rd h'.2 r1)
      · exact p.elim
    · exact p.elim
theorem isN_ok : OpR X (compareOp .Is) (rS2 X (isB false)) := by
  intro pins s σ H x y v u Q Iv rx ry ⟨μ, I, d, e, ok, rd, re, p⟩
  unfold isB at p
  split at p
  · cases re
    refine op_isN pins s σ H _ _ v u Q Iv rx ry ⟨rfl, ?_⟩
    cases d with
    | non => cases rd; exact fin0 ok p rfl
    | bl _ => cases rd; exact fin0 ok p rfl
    | int _ => cases rd; exact fin0 ok p rfl
    | str _ => cases rd; exact fin0 ok p rfl
    | tup _ => obtain ⟨_, _, rfl, _⟩ := rd; exact fin0 ok p rfl
    | lst _ => obtain ⟨_, _, rfl, _⟩ := rd; exact fin0 ok p rfl
    | scr _ => obtain ⟨_, rfl, _⟩ := rd; exact fin0 ok p rfl
    | loc _ => obtain ⟨_, rfl, _⟩ := rd; exact fin0 ok p rfl
  · exact p.elim
theorem isNot_ok : OpR X (compareOp .IsNot) (rS2 X (isB true)) := by
  intro pins s σ H x y v u Q Iv rx ry ⟨μ, I, d, e, ok, rd, re, p⟩
  unfold isB at p
  split at p
  · cases re
    refine op_notN pins s σ H _ _ v u Q Iv rx ry ⟨rfl, ?_⟩
    cases d with
    | non => cases rd; exact fin0 ok p rfl
    | bl _ => cases rd; exact fin0 ok p rfl
    | int _ => cases rd; exact fin0 ok p rfl
    | str _ => cases rd; exact fin0 ok p rfl
    | tup _ => obtain ⟨_, _, rfl, _⟩ := rd; exact fin0 ok p rfl
    | lst _ => obtain ⟨_, _, rfl, _⟩ := rd; exact fin0 ok p rfl
    | scr _ => obtain ⟨_, rfl, _⟩ := rd; exact fin0 ok p rfl
    | loc _ => obtain ⟨_, rfl, _⟩ := rd; exact fin0 ok p rfl
  · exact p.elim
theorem lt_ok : OpR X (compareOp .Lt) (rS2 X ltS) := by
  intro pins s σ H x y v u Q Iv rx ry ⟨μ, I, d, e, ok, rd, re, p⟩
  unfold ltS at p
  split at p
  · cases rd; cases re
    exact op_lt pins s σ H _ _ v u Q Iv rx ry ⟨_, _, rfl, rfl, fin0 ok p rfl⟩
  · cases rd; cases re
    exact op_lt_str pins s σ H _ _ v u Q Iv rx ry ⟨_, _, rfl, rfl, fin0 ok p rfl⟩
  · exact p.elim
theorem le_ok : OpR X (compareOp .LtE) (rS2 X leS) := by
  intro pins s σ H x y v u Q Iv rx ry ⟨μ, I, d, e, ok, rd, re, p⟩
  unfold leS at p
  split at p
  · cases rd; cases re
    exact op_le pins s σ H _ _ v u Q Iv rx ry ⟨_, _, rfl, rfl, fin0 ok p rfl⟩
  · cases rd; cases re
    exact op_le_str pins s σ H _ _ v u Q Iv rx ry ⟨_, _, rfl, rfl, fin0 ok p rfl⟩
  · exact p.elim
theorem cmpI_hg (q : Int → Int → Bool) : ∀ x y I, (∃ i j, x = .int i ∧ y = .int j ∧ cmpI q x y I = .ok (.bl (q i j)) I) ∨ cmpI q x y I = .stuck := fun x y I => by
  unfold cmpI; split
  · exact .inl ⟨_, _, rfl, rfl, rfl⟩
  · exact .inr rfl
theorem cmp_ok {op : CmpOp} {g : D → D → MH → Res D} (hu : X.A.units + 64 < cLine) (h : cmpD op = some g) : OpR X (compareOp op) (rS2 X g) := by
  cases op with
  | Eq => cases h; exact eq_ok hu
  | NotEq => cases h; exact ne_ok hu
  | Lt => cases h; exact lt_ok
  | LtE => cases h; exact le_ok
  | Gt => cases h; exact two_I0 (kd := fun i j => .bl (decide (j < i))) op_gt (fun _ _ _ _ _ _ => rfl) (cmpI_hg _)
  | GtE => cases h; exact two_I0 (kd := fun i j => .bl (decide (j ≤ i))) op_ge (fun _ _ _ _ _ _ => rfl) (cmpI_hg _)
  | Is => cases h; exact isN_ok
  | IsNot => cases h; exact isNot_ok
  | In => cases h; exact in_ok
  | NotIn => cases h; exact notIn_ok
end
end MP
/-! MP3: places, slices, built-in functions and methods, by values -/
namespace MP
open PySem PySem.Spec L2

/-! ### text * int (two or more turns of a text that is not empty) -/
theorem fold_rep (xs : List Nat) : ∀ (k : Nat) (acc : Array Nat), (List.replicate k xs.toArray).foldl (· ++ ·) acc = acc ++ ((List.replicate k xs).flatten).toArray
  | 0, acc => by simp
  | k + 1, acc => by
    rw [List.replicate_succ, List.foldl_cons, fold_rep xs k, List.replicate_succ, List.flatten_cons]
    simp [Array.append_assoc]
def repS (s : List Nat) (n : Int) : List Nat := (List.replicate n.toNat s).flatten
def mulSD (x y : D) (I : MH) : Res D :=
  match x, y with
  | .str s, .int n => if decide (2 ≤ n ∧ n < 2 ^ 63) && decide (1 ≤ s.length) && small (s.length * n.toNat) then .ok (.str (repS s n)) I else .stuck
  | .int i, .int j => mulD (.int i) (.int j) I
  | x, .int n => match lstOf I x with
    | some xs => if decide (0 ≤ n ∧ n < 2 ^ 63) && small (xs.length * n.toNat) then .ok (.lst (List.replicate n.toNat xs).flatten) I else .stuck
    | none => .stuck
  | _, _ => .stuck
section
variable {K : PySem.W.Frag} {mg : Str → Option Value} {μ : List Addr} {I : MH} {H : Hp} {L : Addr → Prop}
theorem RVs.rep {ds : List D} {vs : List V} (r : RepVs K L μ H ds vs) : ∀ k : Nat, RepVs K L μ H (List.replicate k ds).flatten (List.replicate k vs).flatten
  | 0 => rfl
  | k + 1 => by
    rw [List.replicate_succ, List.flatten_cons, List.replicate_succ, List.flatten_cons]
    exact RVs.append r (RVs.rep r k)
end
theorem mulS_ok {X : Cx} : OpR X (binaryOp .Mult) (rS2 X mulSD) := by
  intro pins s σ H x y v u Q Iv rx ry ⟨μ, I, d, e, ok, rd, re, p⟩
  unfold mulSD at p
  split at p
  · split at p
    · rename_i z n h
      have h1 := Bool.and_eq_true_iff.mp h
      have h2 := Bool.and_eq_true_iff.mp h1.1
      have hn := of_decide_eq_true h2.1
      have hz := of_decide_eq_true h2.2
      have hs : z.length * n.toNat ≤ sizeLine := of_decide_eq_true h1.2
      cases rd; cases re
      obtain ⟨t, rfl⟩ := rx
      obtain ⟨t', rfl⟩ := ry
      have e1 : (n == 1) = false := beq_eq_false_iff_ne.mpr (by omega)
      have e2 : ((toS z).length == 0) = false := beq_eq_false_iff_ne.mpr (by rw [toS_length]; omega)
      have e3 : sizeLine = 16777216 := sizeLine_eq
      have hle : z.length * n.toNat ≤ 16777216 := by omega
      refine PySem.P.mul_str ?_ (fun _ _ => ?_) (fun _ _ => ?_) ?_
      · rw [decide_eq_false (by omega : ¬ n < -(2 ^ 63 : Int)), decide_eq_false (by omega : ¬ n ≥ 2 ^ 63)]; rfl
      · rw [toS_length]
        intro hgt
        have hz2 : (z.length : Int) ≤ (2 ^ 63 - 1) / n := by
          rw [Int.le_ediv_iff_mul_le (by omega)]
          have : ((z.length * n.toNat : Nat) : Int) = (z.length : Int) * n := by rw [Int.natCast_mul, Int.toNat_of_nonneg (by omega)]
          omega
        omega
      · rw [toS_length]
        show decide (z.length * n.toNat > sizeLine) = false
        exact decide_eq_false (by omega)
      · rw [if_neg (by omega), e1, e2]
        show Made.post (Made.str ⟨(List.replicate n.toNat (toS z).cps).foldl (· ++ ·) #[]⟩) _ _
        have ef : (⟨(List.replicate n.toNat (toS z).cps).foldl (· ++ ·) #[]⟩ : Str) = toS (repS z n) := by
          show (⟨(List.replicate n.toNat z.toArray).foldl (· ++ ·) #[]⟩ : Str) = _
          rw [fold_rep, Array.empty_append]
          rfl
        rw [ef]
        refine ⟨?_, ⟨.str (toS (repS z n)), H, Iv.tok _, ⟨_, rfl⟩, fin0 ok p rfl⟩⟩
        rw [toS_length]
        have : (repS z n).length = z.length * n.toNat := by
          unfold repS
          rw [List.length_flatten, List.map_replicate, List.sum_replicate_nat, Nat.mul_comm]
        omega
    · exact p.elim
  · exact mul_ok pins s σ H x y v u Q Iv rx ry ⟨μ, I, _, _, ok, rd, re, p⟩
  · split at p
    · rename_i xs e1
      split at p
      · rename_i h
        have h1 := Bool.and_eq_true_iff.mp h
        have hn := of_decide_eq_true h1.1
        have hs := of_decide_eq_true h1.2
        obtain ⟨a, vs, rfl, q1, r1⟩ := lstOf_ok ok rd e1
        cases re
        refine op_rep pins s σ H _ _ v u Q Iv rx ry ⟨a, _, vs, rfl, rfl, q1, by omega, hn.2, ?_, fun q hq => ?_⟩
        · rw [← RVs.length r1]; exact hs
        · exact fin1 ok p (same_upd hq) (rv_lst ok hq (RVs.rep r1 _))
      · exact p.elim
    · exact p.elim
  · exact p.elim
def binD' : Operator → Option (D → D → MH → Res D)
  | .Mult => some mulSD
  | op => binD op
theorem bin_ok' {X : Cx} {op : Operator} {g : D → D → MH → Res D} (h : binD' op = some g) : OpR X (binaryOp op) (rS2 X g) := by
  cases op <;> first
    | (cases h; exact mulS_ok)
    | exact bin_ok h

/-! ### places -/
def ixD (x y : D) (I : MH) : Res D :=
  match x, y with
  | .str s, .int i => if small s.length then optR I ((atI s i).map fun c => .str [c]) else .stuck
  | x, .int i => match seqOf I x with
    | some xs => optR I (atI xs i)
    | none => .stuck
  | _, _ => .stuck
theorem atI_len {α β : Type} {xs : List α} {ys : List β} {i : Int} {d : α} (hl : xs.length = ys.length) (h : atI xs i = some d) : ∃ j : Nat, xs[j]? = some d ∧ ∀ v : β, ys[j]? = some v → atI ys i = some v := by
  unfold atI at h ⊢
  rw [← hl]
  cases e : ixN xs.length i with
  | none => rw [e] at h; cases h
  | some j =>
    rw [e] at h
    exact ⟨j, h, fun v hv => hv⟩
theorem ix_ok {X : Cx} : IxR X (rS2 X ixD) := by
  intro value slice pins s σ H x y v u Q Iv rx ry ⟨μ, I, d, e, ok, rd, re, p⟩ hs
  unfold ixD at p
  split at p
  · rename_i z i
    split at p
    · rename_i h
      cases q : (atI z i).map (fun c => D.str [c]) with
      | none => rw [q] at p; exact p.elim
      | some w =>
        rw [q] at p
        cases hc : atI z i with
        | none => rw [hc] at q; cases q
        | some c =>
          rw [hc] at q; cases q
          cases rd; cases re
          exact ix_str value slice pins s σ H _ _ v u Q Iv rx ry ⟨_, _, c, rfl, rfl, by rw [toS_length]; exact of_decide_eq_true h, hc, fin0 ok p rfl⟩ hs
    · exact p.elim
  · split at p
    · rename_i i _ _ xs e1
      cases re
      obtain ⟨a, vs, rfl, q1, r1⟩ := seqOf_ok ok rd e1
      cases hc : atI xs i with
      | none => rw [hc] at p; exact p.elim
      | some w =>
        rw [hc] at p
        obtain ⟨j, hj, hv⟩ := atI_len (RVs.length r1) hc
        obtain ⟨w', hw, rw'⟩ := RVs.get r1 hj
        rcases q1 with q1 | q1
        · exact ix_list value slice pins s σ H _ _ v u Q Iv rx ry ⟨a, vs, i, w', rfl, rfl, q1, hv w' hw, fin0 ok p rw'⟩ hs
        · exact ix_tup value slice pins s σ H _ _ v u Q Iv rx ry ⟨a, vs, i, w', rfl, rfl, q1, hv w' hw, fin0 ok p rw'⟩ hs
    · exact p.elim
  · exact p.elim

/-! ### slices -/
def cutD {α : Type} (xs : List α) (lo hi : Option Int) : List α := (xs.drop (HT.sIx xs.length 0 lo)).take (HT.sIx xs.length xs.length hi - HT.sIx xs.length 0 lo)
def slD (x : D) (lo hi : Option Int) (I : MH) : Res D :=
  match x with
  | .str s => if small s.length then .ok (.str (cutD s lo hi)) I else .stuck
  | .tup xs => if decide (HT.sIx xs.length 0 lo = 0 ∧ HT.sIx xs.length xs.length hi = xs.length) then .stuck else .ok (.tup (cutD xs lo hi)) I
  | x => match lstOf I x with
    | some xs => .ok (.lst (cutD xs lo hi)) I
    | none => .stuck
def rSsl (X : Cx) : V → Option Int → Option Int → Hp → VK → Prop := fun x lo hi H Q => ∃ μ I d, Ok X.K X.mg μ I H ∧ RV X.K μ I H d x ∧ RPost X.K X.mg W0 μ I H (sE X Q) (slD d lo hi I)
theorem RVs.cut {K : PySem.W.Frag} {L : Addr → Prop} {μ : List Addr} {H : Hp} {ds : List D} {vs : List V} (r : RepVs K L μ H ds vs) (lo hi : Option Int) : RepVs K L μ H (cutD ds lo hi) (cutV vs lo hi) := by
  unfold cutD cutV
  rw [RVs.length r]
  exact RVs.take _ (RVs.drop _ r)
theorem sl_ok {X : Cx} : SlR X (rSsl X) := by
  intro pins s σ H x v vl vu lo hi sl Q Iv rx hs pl pu ⟨μ, I, d, ok, rd, p⟩
  unfold slD at p
  split at p
  · split at p
    · rename_i z h
      cases rd
      refine sl_str pins s σ H _ v vl vu lo hi sl Q Iv rx hs pl pu ⟨_, rfl, by rw [toS_length]; exact of_decide_eq_true h, ?_⟩
      have e : cutS (toS z) lo hi = toS (cutD z lo hi) := by
        unfold cutS cutD
        rw [toS_length]
        rfl
      rw [e]
      exact fin0 ok p rfl
    · exact p.elim
  · split at p
    · exact p.elim
    · rename_i xs h
      obtain ⟨a, vs, rfl, q1, r1⟩ := rd
      have hl := RVs.length r1
      refine sl_tup pins s σ H _ v vl vu lo hi sl Q Iv rx hs pl pu ⟨a, vs, rfl, q1, ?_, fun q hq => ?_⟩
      · rw [← hl]
        intro z
        exact h (decide_eq_true z)
      · exact fin1 ok p (same_upd hq) (rv_tup ok hq (RVs.cut r1 lo hi))
  · split at p
    · rename_i xs e1
      obtain ⟨a, vs, rfl, q1, r1⟩ := lstOf_ok ok rd e1
      refine sl_list pins s σ H _ v vl vu lo hi sl Q Iv rx hs pl pu ⟨a, vs, rfl, SqL.of q1, fun q hq => ?_⟩
      exact fin1 ok p (same_upd hq) (rv_lst ok hq (RVs.cut r1 lo hi))
    · exact p.elim

/-! ### truth -/
def truD (x : D) (I : MH) : Res Bool :=
  match x with
  | .non => .ok false I
  | .bl b => .ok b I
  | .int i => .ok (i != 0) I
  | .str s => if small s.length then .ok (!s.isEmpty) I else .stuck
  | x => match seqOf I x with
    | some xs => .ok (!xs.isEmpty) I
    | none => .stuck
theorem tru_rep {K : PySem.W.Frag} {mg : Str → Option Value} {μ : List Addr} {I : MH} {H : Hp} (ok : Ok K mg μ I H) {d : D} {v : V} (r : RV K μ I H d v) {b : Bool} {I' : MH} (h : truD d I = .ok b I') : I' = I ∧ TruV K v H b := by
  unfold truD at h
  split at h
  · cases h; cases r; exact ⟨rfl, rfl⟩
  · cases h; cases r; exact ⟨rfl, rfl⟩
  · cases h; cases r; exact ⟨rfl, rfl⟩
  · split at h
    · rename_i z hz
      cases h; cases r
      refine ⟨rfl, by rw [toS_length]; exact of_decide_eq_true hz, ?_⟩
      rw [toS_length]
      cases z with
      | nil => rfl
      | cons a t => simp; omega
    · cases h
  · split at h
    · rename_i xs e1
      cases h
      obtain ⟨a, vs, rfl, q1, r1⟩ := seqOf_ok ok r e1
      have e : xs.isEmpty = vs.isEmpty := by
        have := RVs.length r1
        cases xs <;> cases vs <;> simp_all
      rw [e]
      rcases q1 with q1 | q1
      · exact ⟨rfl, .inl ⟨vs, q1, rfl⟩⟩
      · exact ⟨rfl, .inr (.inl ⟨vs, q1, rfl⟩)⟩
    · cases h

/-! ### built-in functions -/
def lenD (xs : List D) (I : MH) : Res D :=
  match xs with
  | [.str s] => if small s.length then .ok (.int s.length) I else .stuck
  | [x] => match seqOf I x with
    | some ys => .ok (.int ys.length) I
    | none => .stuck
  | _ => .stuck
def intD (xs : List D) (I : MH) : Res D :=
  match xs with
  | [.int i] => .ok (.int i) I
  | [.bl b] => .ok (.int (if b then 1 else 0)) I
  | [.str s] => if decide (s.length ≤ 640) then optR I ((PySem.intText? (toS s)).map .int) else .stuck
  | _ => .stuck
def ordD (xs : List D) (I : MH) : Res D :=
  match xs with
  | [.str [c]] => .ok (.int c) I
  | _ => .stuck
def tupleD (xs : List D) (I : MH) : Res D :=
  match xs with
  | [.tup ys] => .ok (.tup ys) I
  | [x] => match lstOf I x with
    | some ys => .ok (.tup ys) I
    | none => .stuck
  | _ => .stuck
def listD (xs : List D) (I : MH) : Res D :=
  match xs with
  | [x] => match seqOf I x with
    | some ys => .ok (.lst ys) I
    | none => .stuck
  | _ => .stuck
def boolsOf : List D → Option (List Bool)
  | [] => some []
  | .bl b :: r => (boolsOf r).map (b :: ·)
  | _ :: _ => none
def allD (xs : List D) (I : MH) : Res D :=
  match xs with
  | [x] => match (lstOf I x).bind boolsOf with
    | some bs => .ok (.bl (bs.all id)) I
    | none => .stuck
  | _ => .stuck
def anyD (xs : List D) (I : MH) : Res D :=
  match xs with
  | [x] => match (lstOf I x).bind boolsOf with
    | some bs => .ok (.bl (bs.any id)) I
    | none => .stuck
  | _ => .stuck
section
variable {X : Cx} {K : PySem.W.Frag} {μ : List Addr} {I : MH} {H : Hp}
theorem one_rep {L : Addr → Prop} {d : D} {vs : List V} (r : RepVs K L μ H [d] vs) : ∃ v, vs = [v] ∧ RepV K L μ H d v := by
  obtain ⟨v, t, rfl, h, h2⟩ := r
  cases h2
  exact ⟨v, rfl, h⟩
theorem len_ok : CallR X (.builtin "len") (rSn X lenD) := by
  intro pins s σ H xs us Q Iv r ⟨μ, I, ds, ok, rd, p⟩
  unfold lenD at p
  split at p
  · split at p
    · rename_i h
      obtain ⟨v, rfl, rv⟩ := one_rep rd
      cases rv
      refine call_len_str pins s σ H _ us Q Iv r ⟨_, rfl, by rw [toS_length]; exact of_decide_eq_true h, ?_⟩
      rw [toS_length]
      exact fin0 ok p rfl
    · exact p.elim
  · split at p
    · rename_i e1
      obtain ⟨v, rfl, rv⟩ := one_rep rd
      obtain ⟨a, vs, rfl, q1, r1⟩ := seqOf_ok ok rv e1
      refine call_len_seq pins s σ H _ us Q Iv r ⟨a, vs, rfl, q1, ?_⟩
      rw [← RVs.length r1]
      exact fin0 ok p rfl
    · exact p.elim
  · exact p.elim
theorem int_ok : CallR X (.type "int") (rSn X intD) := by
  intro pins s σ H xs us Q Iv r ⟨μ, I, ds, ok, rd, p⟩
  unfold intD at p
  split at p
  · obtain ⟨v, rfl, rv⟩ := one_rep rd
    cases rv
    exact call_int1 pins s σ H _ us Q Iv r (.inl ⟨_, rfl, fin0 ok p rfl⟩)
  · obtain ⟨v, rfl, rv⟩ := one_rep rd
    cases rv
    exact call_int1 pins s σ H _ us Q Iv r (.inr ⟨_, rfl, fin0 ok p rfl⟩)
  · split at p
    · rename_i z h
      obtain ⟨v, rfl, rv⟩ := one_rep rd
      cases rv
      cases e : PySem.intText? (toS z) with
      | none => rw [e] at p; exact p.elim
      | some n =>
        rw [e] at p
        exact call_int_str pins s σ H _ us Q Iv r ⟨_, n, rfl, e, by rw [toS_length]; exact of_decide_eq_true h, fin0 ok p rfl⟩
    · exact p.elim
  · exact p.elim
theorem ord_ok : CallR X (.builtin "ord") (rSn X ordD) := by
  intro pins s σ H xs us Q Iv r ⟨μ, I, ds, ok, rd, p⟩
  unfold ordD at p
  split at p
  · obtain ⟨v, rfl, rv⟩ := one_rep rd
    cases rv
    exact call_ord pins s σ H _ us Q Iv r ⟨_, rfl, rfl, fin0 ok p rfl⟩
  · exact p.elim
theorem tuple_ok : CallR X (.type "tuple") (rSn X tupleD) := by
  intro pins s σ H xs us Q Iv r ⟨μ, I, ds, ok, rd, p⟩
  unfold tupleD at p
  split at p
  · obtain ⟨v, rfl, rv⟩ := one_rep rd
    obtain ⟨a, vs, rfl, q1, r1⟩ := id rv
    exact call_tuple_of pins s σ H _ us Q Iv r ⟨a, vs, rfl, .inr ⟨q1, fin0 ok p rv⟩⟩
  · split at p
    · rename_i e1
      obtain ⟨v, rfl, rv⟩ := one_rep rd
      obtain ⟨a, vs, rfl, q1, r1⟩ := lstOf_ok ok rv e1
      exact call_tuple_of pins s σ H _ us Q Iv r ⟨a, vs, rfl, .inl ⟨SqL.of q1, fun q hq => fin1 ok p (same_upd hq) (rv_tup ok hq r1)⟩⟩
    · exact p.elim
  · exact p.elim
theorem list_ok : CallR X (.type "list") (rSn X listD) := by
  intro pins s σ H xs us Q Iv r ⟨μ, I, ds, ok, rd, p⟩
  unfold listD at p
  split at p
  · split at p
    · rename_i e1
      obtain ⟨v, rfl, rv⟩ := one_rep rd
      obtain ⟨a, vs, rfl, q1, r1⟩ := seqOf_ok ok rv e1
      exact call_list_of pins s σ H _ us Q Iv r ⟨a, vs, rfl, q1, fun q hq => fin1 ok p (same_upd hq) (rv_lst ok hq r1)⟩
    · exact p.elim
  · exact p.elim
theorem bools_rep : ∀ {ds : List D} {vs : List V} {bs : List Bool}, boolsOf ds = some bs → RVs K μ I H ds vs → vs = bs.map V.bl
  | [], _, _, h, r => by cases h; cases r; rfl
  | d :: ds, vs, bs, h, r => by
    obtain ⟨v, t, rfl, r1, r2⟩ := r
    cases d with
    | bl b =>
      unfold boolsOf at h
      cases e : boolsOf ds with
      | none => rw [e] at h; cases h
      | some cs =>
        rw [e] at h; cases h
        cases r1
        rw [bools_rep e r2]
        rfl
    | _ => cases h
theorem all_ok (hc : X.calm = true) : CallR X (.builtin "all") (rSn X allD) := by
  intro pins s σ H xs us Q Iv r ⟨μ, I, ds, ok, rd, p⟩
  unfold allD at p
  split at p
  · rename_i x
    split at p
    · rename_i bs e1
      obtain ⟨v, rfl, rv⟩ := one_rep rd
      cases e2 : lstOf I x with
      | none => rw [e2] at e1; cases e1
      | some ys =>
        rw [e2] at e1
        obtain ⟨a, vs, rfl, q1, r1⟩ := lstOf_ok ok rv e2
        have e3 := bools_rep e1 r1
        subst e3
        exact cr_all hc pins s σ H _ us Q Iv r ⟨a, bs, rfl, SqL.of q1, fin0 ok p rfl⟩
    · exact p.elim
  · exact p.elim
theorem any_ok (hc : X.calm = true) : CallR X (.builtin "any") (rSn X anyD) := by
  intro pins s σ H xs us Q Iv r ⟨μ, I, ds, ok, rd, p⟩
  unfold anyD at p
  split at p
  · rename_i x
    split at p
    · rename_i bs e1
      obtain ⟨v, rfl, rv⟩ := one_rep rd
      cases e2 : lstOf I x with
      | none => rw [e2] at e1; cases e1
      | some ys =>
        rw [e2] at e1
        obtain ⟨a, vs, rfl, q1, r1⟩ := lstOf_ok ok rv e2
        have e3 := bools_rep e1 r1
        subst e3
        exact cr_any hc pins s σ H _ us Q Iv r ⟨a, bs, rfl, SqL.of q1, fin0 ok p rfl⟩
    · exact p.elim
  · exact p.elim
end

/-! ### methods of built-in types -/
def findD (x : D) (xs : List D) (I : MH) : Res D :=
  match x, xs with
  | .str s, [.str t, .int i] => .ok (.int (Txt.find3 (toS s) (toS t) i)) I
  | .str s, [.str t] => .ok (.int (Txt.find (toS s) (toS t))) I
  | _, _ => .stuck
def endswithD (x : D) (xs : List D) (I : MH) : Res D :=
  match x, xs with
  | .str s, [.str t] => .ok (.bl (Txt.endswith (toS s) (toS t))) I
  | _, _ => .stuck
def startswithD (x : D) (xs : List D) (I : MH) : Res D :=
  match x, xs with
  | .str s, [.str t] => .ok (.bl (Txt.startswith (toS s) (toS t))) I
  | _, _ => .stuck
def strsOf : List D → Option (List (List Nat))
  | [] => some []
  | .str s :: r => (strsOf r).map (s :: ·)
  | _ :: _ => none
def joinD (x : D) (xs : List D) (I : MH) : Res D :=
  match x, xs with
  | .str s, [y] => match (lstOf I y).bind strsOf with
    | some ss => if decide ((ss.map List.length).sum + s.length * ss.length ≤ 16777216) then .ok (.str (TL.joinL s ss)) I else .stuck
    | none => .stuck
  | _, _ => .stuck
def appendD (x : D) (xs : List D) (I : MH) : Res D :=
  match x, xs with
  | .loc n, [d] => match I[n]? with
    | some (.lst ys) => if decide (ys.length < sizeLine) then .ok .non (I.set n (.lst (ys ++ [d]))) else .stuck
    | _ => .stuck
  | _, _ => .stuck
def extendD (x : D) (xs : List D) (I : MH) : Res D :=
  match x, xs with
  | .loc n, [d] => match I[n]?, lstOf I d with
    | some (.lst ys), some zs => if small (ys.length + zs.length) then .ok .non (I.set n (.lst (ys ++ zs))) else .stuck
    | _, _ => .stuck
  | _, _ => .stuck
end MP
/-! MP4: the forms of expressions, by the trees' readings -/
namespace MP
open PySem PySem.Spec L2

/-! ### what the written form must not be -/
def notStar : Expr → Bool
  | .Starred .. => false
  | _ => true
theorem star_cons {e : Expr} {es : List Expr} {env : Env} (h : notStar e = true) : starEach (e :: es) env = (false, eval e env) :: starEach es env := by
  cases e <;> first | rfl | cases h
theorem star_any {pos : Pos} {env : Env} : ∀ {es : List Expr}, es.all notStar = true → (backTo pos (starEach es env)).any (·.1) = false
  | [], _ => rfl
  | e :: es, h => by
    rw [List.all_cons] at h
    have h' := Bool.and_eq_true_iff.mp h
    rw [star_cons h'.1]
    show (false || (backTo pos (starEach es env)).any (·.1)) = false
    rw [star_any h'.2]
    rfl
theorem star_all {pos : Pos} {env : Env} : ∀ {es : List Expr}, es.all notStar = true → (backTo pos (starEach es env)).all (fun x => !x.1) = true
  | [], _ => rfl
  | e :: es, h => by
    rw [List.all_cons] at h
    have h' := Bool.and_eq_true_iff.mp h
    rw [star_cons h'.1]
    show (!false && (backTo pos (starEach es env)).all (fun x => !x.1)) = true
    rw [star_all h'.2]
    rfl
def baseOk : Expr → Bool
  | .Call (.Name _ _) [] [] _ => false
  | _ => true
theorem base_ok {o : Expr} {name : Str} {env : Env} {w : Sem Value} (h : baseOk o = true) : attributeBase o name env w = w := by
  unfold baseOk at h
  split at h
  · cases h
  · rename_i hn
    unfold attributeBase
    split
    · exact absurd rfl (hn _ _ _)
    · rfl
def notSlice : Expr → Bool
  | .Slice .. => false
  | _ => true
theorem plainIx {b : Expr} (h : notSlice b = true) : PlainIx b := by
  intro o i
  cases b <;> first | rfl | cases h
def notSet : Expr → Bool
  | .Set .. => false
  | _ => true
theorem noMarks {op : CmpOp} {b : Expr} (h : notSet b = true) : behindInMarks op b = false := by
  cases b <;> first | rfl | cases h
theorem noFold {e : Expr} {env : Env} (h : notSet e = true) (x : Value) : foldedSetIterable e env x = pure x := by
  cases e <;> first | rfl | cases h
def plainTest : Expr → Bool
  | .UnaryOp .Not _ _ => false
  | .BoolOp .. => false
  | .IfExp .. => false
  | .Compare .. => false
  | _ => true
theorem plain_test {e : Expr} {env : Env} (h : plainTest e = true) (whole : Sem Value) : isTrue e env whole = (do let v ← whole; standAt e.pos; holding [v] (truthy v)) := by
  cases e with
  | UnaryOp op a p => cases op <;> first | rfl | cases h
  | BoolOp => cases h
  | IfExp => cases h
  | Compare => cases h
  | _ => rfl
def notComp : Expr → Bool
  | .ListComp .. => false
  | .SetComp .. => false
  | .DictComp .. => false
  | _ => true
theorem noSwap {e : Expr} {t : Option Expr} {l : Nat} {env : Env} (h : notComp e = true) : swapsWith e t l env = pure false := by
  cases e <;> first | rfl | cases h

/-! ### the context of the writing -/
structure CC where
  sc : Scope
  N : List Str
  isDef : Bool
  fns : List (Str × Nat × FF)
  cst : List (Str × D)
  blt : List Str
  mts : List Str
  exs : List (Str × Option Str)
  cls : List (Str × List Str) := []
  mth : List ((Str × Str) × Nat × FF) := []
  mks : List (Str × Nat × FF) := []
  kds : List (Str × List (List Nat × D)) := []

def spSim (K : PySem.W.Frag) (mg : Str → Option Value) (n : Nat) (F : FF) : Sp := fun vs H Q E => vs.length = n ∧ ∃ μ I ds, Ok K mg μ I H ∧ RVs K μ I H ds vs ∧ RPost K mg E μ I H (fun μ' I' H' d => ∀ v, RV K μ' I' H' d v → Q v H') (F ds I)
/-- a def that the text has, and what it is worth -/
structure FnSim (P : Program) (w : World) (K : PySem.W.Frag) (mg : Str → Option Value) (base : Heap) (k : Nat) (x : Str) (n : Nat) (F : FF) : Prop where
  ex : ∃ f fd ps, mg x = some (.ref f) ∧ PySem.W.keepIn K (.ref f) = true ∧ Binds K fd ps [] ∧ FnOk P w K mg base (L2N.CX P w) k f fd ps (spSim K mg n F)
theorem FnSim.mono {P : Program} {w : World} {K : PySem.W.Frag} {mg : Str → Option Value} {base : Heap} {k j : Nat} {x : Str} {n : Nat} {F : FF} (h : FnSim P w K mg base k x n F) (hj : k ≤ j) : FnSim P w K mg base j x n F := by
  obtain ⟨f, fd, ps, h1, h2, h3, h4⟩ := h.ex
  exact ⟨f, fd, ps, h1, h2, h3, h4.mono hj⟩
/-- what is known of a class -/
def ClsOk (K : PySem.W.Frag) (mg : Str → Option Value) (c : Str) (as : List Str) : Prop := ∃ C, mg c = some (.ref C) ∧ Cls K C ∧ ∀ n, as.contains n = true → NoAttr K C n
structure MthSim (P : Program) (w : World) (K : PySem.W.Frag) (mg : Str → Option Value) (base : Heap) (k : Nat) (c m : Str) (n : Nat) (F : FF) : Prop where
  ex : ∃ C f fd ps, mg c = some (.ref C) ∧ Cls K C ∧ Meth K C m f ∧ Binds K fd ps [] ∧ FnOk P w K mg base (L2N.CX P w) k f fd ps (spSim K mg n F)
structure MakeSim (P : Program) (w : World) (K : PySem.W.Frag) (mg : Str → Option Value) (base : Heap) (k : Nat) (c : Str) (n : Nat) (F : FF) : Prop where
  ex : ∃ C f fd ps, mg c = some (.ref C) ∧ Mk K C f ∧ Binds K fd ps [] ∧ FnOk P w K mg base (L2N.CX P w) k f fd ps (spSim K mg n F)
section
variable {P : Program} {w : World} {K : PySem.W.Frag} {mg : Str → Option Value} {base : Heap} {k j : Nat} {c m : Str} {n : Nat} {F : FF}
theorem MthSim.mono (h : MthSim P w K mg base k c m n F) (hj : k ≤ j) : MthSim P w K mg base j c m n F := by
  obtain ⟨C, f, fd, ps, h1, h2, h3, h4, h5⟩ := h.ex
  exact ⟨C, f, fd, ps, h1, h2, h3, h4, h5.mono hj⟩
theorem MakeSim.mono (h : MakeSim P w K mg base k c n F) (hj : k ≤ j) : MakeSim P w K mg base j c n F := by
  obtain ⟨C, f, fd, ps, h1, h2, h3, h4⟩ := h.ex
  exact ⟨C, f, fd, ps, h1, h2, h3, h4.mono hj⟩
end
/-- a dict of the written part, its keys texts -/
def KdOk (K : PySem.W.Frag) (w : World) (mg : Str → Option Value) (T : Str) (tb : List (List Nat × D)) : Prop := ∃ (d : Addr) (es : Array DictEntry) (n : Nat), mg T = some (.ref d) ∧ KDict K w d es n ∧
  ∀ z : List Nat, match tb.lookup z with
    | some x => ∃ u v, PySem.W.nsIn K d (toS z) = some (some u) ∧ RelV v u ∧ ∀ μ I H, RV K μ I H x v
    | none => PySem.W.nsIn K d (toS z) = some none
/-- what holds of the module, of all contexts -/
structure Mdl (P : Program) (w : World) (K : PySem.W.Frag) (mg : Str → Option Value) (base : Heap) (k : Nat) (C : CC) : Prop where
  fns : ∀ x n F, C.fns.lookup x = some (n, F) → FnSim P w K mg base k x n F
  cst : ∀ x d, C.cst.lookup x = some d → ∃ u v, mg x = some u ∧ RelV v u ∧ ∀ μ I H, RV K μ I H d v
  blt : ∀ x, C.blt.contains x = true → mg x = none
  cls : ∀ c as, C.cls.lookup c = some as → ClsOk K mg c as
  mth : ∀ c m n F, C.mth.lookup (c, m) = some (n, F) → MthSim P w K mg base k c m n F
  mks : ∀ c n F, C.mks.lookup c = some (n, F) → ∃ j, j + 1 ≤ k ∧ MakeSim P w K mg base j c n F
  kds : ∀ T tb, C.kds.lookup T = some tb → KdOk K w mg T tb
structure Mt (X : Cx) (C : CC) (W : WX) (k : Nat) : Prop where
  sc : X.env.scope = C.sc
  N : X.N = C.N
  nd : C.N.Nodup
  calm : X.calm = true
  room : Room k X.A
  tk : L2N.Takes X W
  isDef : C.isDef = true → ∀ x, X.fn x = true
  mdl : Mdl X.prog X.w X.K X.mg X.base k C

def idx (x : Str) : List Str → Option Nat
  | [] => none
  | y :: ys => if x = y then some 0 else (idx x ys).map (· + 1)
theorem idx_get {x : Str} : ∀ {l : List Str} {i : Nat}, idx x l = some i → l[i]? = some x
  | [], _, h => by cases h
  | y :: ys, i, h => by
    unfold idx at h
    split at h
    · rename_i e
      cases h
      rw [e]; rfl
    · cases e : idx x ys with
      | none => rw [e] at h; cases h
      | some j =>
        rw [e] at h; cases h
        have := idx_get e
        simpa using this

def getV (i : Nat) : EF := fun ρ I => match ρ[i]? with
  | some (some d) => .ok d I
  | _ => .stuck
def cV (d : D) : EF := fun _ I => .ok d I
def bin2 (g : D → D → MH → Res D) (f h : EF) : EF := fun ρ I => (f ρ I).bind fun x I1 => (h ρ I1).bind fun y I2 => g x y I2
def un1 (g : D → MH → Res D) (f : EF) : EF := fun ρ I => (f ρ I).bind fun x I1 => g x I1
def chain2 (g g' : D → D → MH → Res D) (f h h' : EF) : EF := fun ρ I => (f ρ I).bind fun x I1 => (h ρ I1).bind fun y I2 => (g x y I2).bind fun c I3 => match c with
  | .bl true => (h' ρ I3).bind fun z I4 => g' y z I4
  | .bl false => .ok (.bl false) I3
  | _ => .stuck
def andE (f g : EF) : EF := fun ρ I => (f ρ I).bind fun x I1 => match x with
  | .bl true => g ρ I1
  | .bl false => .ok (.bl false) I1
  | _ => .stuck
def orE (f g : EF) : EF := fun ρ I => (f ρ I).bind fun x I1 => match x with
  | .bl false => g ρ I1
  | .bl true => .ok (.bl true) I1
  | _ => .stuck
def notB (x : D) (I : MH) : Res D :=
  match x with
  | .bl b => .ok (.bl (!b)) I
  | _ => .stuck
def negD (x : D) (I : MH) : Res D :=
  match x with
  | .int i => .ok (.int (-i)) I
  | _ => .stuck
def ifE (t : TF) (f g : EF) : EF := fun ρ I => (t ρ I).bind fun b I1 => if b then f ρ I1 else g ρ I1
def seqA : List EF → AF
  | [] => fun _ I => .ok [] I
  | f :: fs => fun ρ I => (f ρ I).bind fun x I1 => (seqA fs ρ I1).bind fun xs I2 => .ok (x :: xs) I2
def tupE (fs : List EF) : EF := fun ρ I => (seqA fs ρ I).bind fun xs I1 => if small xs.length then .ok (.tup xs) I1 else .stuck
def lstE (fs : List EF) : EF := fun ρ I => (seqA fs ρ I).bind fun xs I1 => if small xs.length then .ok (.lst xs) I1 else .stuck
def partE : Option EF → En → MH → Res (Option Int)
  | none => fun _ I => .ok none I
  | some f => fun ρ I => (f ρ I).bind fun x I1 => match x with
    | .int i => .ok (some i) I1
    | _ => .stuck
def sliceE (f : EF) (lo hi : Option EF) : EF := fun ρ I => (f ρ I).bind fun x I1 => (partE lo ρ I1).bind fun l I2 => (partE hi ρ I2).bind fun h I3 => slD x l h I3
def callE (n : Nat) (F : FF) (fs : List EF) : EF := fun ρ I => (seqA fs ρ I).bind fun xs I1 => if xs.length = n then F xs I1 else .stuck
def bltE (g : List D → MH → Res D) (fs : List EF) : EF := fun ρ I => (seqA fs ρ I).bind fun xs I1 => (g xs I1).calm
def truE (f : EF) : TF := fun ρ I => (f ρ I).bind fun x I1 => truD x I1
def boolE (f : EF) : TF := fun ρ I => (f ρ I).bind fun x I1 => match x with
  | .bl b => .ok b I1
  | _ => .stuck
def andT (f g : TF) : TF := fun ρ I => (f ρ I).bind fun b I1 => if b then g ρ I1 else .ok false I1
def orT (f g : TF) : TF := fun ρ I => (f ρ I).bind fun b I1 => if b then .ok true I1 else g ρ I1
def notT (f : TF) : TF := fun ρ I => (f ρ I).bind fun b I1 => .ok (!b) I1

section
variable {X : Cx} {W : WX}
theorem se_var {i : Nat} {x : Str} {pos : Pos} (hN : X.N[i]? = some x) (hv : Vis X.env.scope x) (hd : (x == ("__debug__" : Str)) = false) (hcd : (x == ("__classdict__" : Str)) = false) : SE X W (.Name x pos) (getV i) := by
  refine pe_weak (pe_var hN hv hd hcd) fun σ H Q ⟨μ, ρ, I, rr, ok, p⟩ => ?_
  unfold getV at p
  split at p
  · rename_i d e
    obtain ⟨v, h1, h2⟩ := rr.2 i d e
    exact ⟨v, h1, fin0 ok p h2⟩
  · exact p.elim
theorem se_const {e : Expr} {v : V} {d : D} (h : PE X e (tC v)) (hd : ∀ μ I H, RV X.K μ I H d v) : SE X W e (cV d) :=
  pe_weak h fun σ H Q ⟨μ, ρ, I, rr, ok, p⟩ => fin0 ok p (hd _ _ _)
theorem use2 {σ : L2.St} {H : Hp} {Q : VK} {W' : Value → Option Addr → Hp → Prop} {μ : List Addr} {I : MH} {g : D → D → MH → Res D} {d e : D} {x y : V} (hg : ∀ d e I x I', g d e I ≠ .err x I') (ok : Ok X.K X.mg μ I H) (rd : RV X.K μ I H d x) (re : RV X.K μ I H e y)
    (p : RPost X.K X.mg W' μ I H (sE X Q) (g d e I)) : rS2 X g x y H Q := by
  refine ⟨μ, I, d, e, ok, rd, re, ?_⟩
  cases h : g d e I with
  | ok a I2 => rw [h] at p; exact p
  | err z I2 => exact absurd h (hg d e I z I2)
  | stuck => rw [h] at p; exact p
theorem se_bin {a b : Expr} {f h : EF} {op : Operator} {g : D → D → MH → Res D} {pos : Pos} (hg : ∀ d e I x I', g d e I ≠ .err x I') (ho : OpR X (binaryOp op) (rS2 X g)) (ha : SE X W a f) (hb : SE X W b h) : SE X W (.BinOp a op b pos) (bin2 g f h) := by
  refine pe_weak (pe_op ho ha hb) fun σ H Q ⟨μ, ρ, I, rr, ok, p⟩ => ?_
  refine then_E rr ok p fun μ1 I1 H1 d v e1 rr1 ok1 rd p1 => ?_
  refine then_E rr1 ok1 p1 fun μ2 I2 H2 e u e2 rr2 ok2 re p2 => ?_
  exact use2 (σ := σ) hg ok2 (RepV.ext e2 ok1 _ _ rd) re p2
theorem se_cmp {a b : Expr} {f h : EF} {op : CmpOp} {g : D → D → MH → Res D} {pos : Pos} (hg : ∀ d e I x I', g d e I ≠ .err x I') (ho : OpR X (compareOp op) (rS2 X g)) (hm : notSet b = true) (ha : SE X W a f) (hb : SE X W b h) : SE X W (.Compare a [op] [b] pos) (bin2 g f h) := by
  refine pe_weak (pe_cmpR ho ha hb (noMarks hm)) fun σ H Q ⟨μ, ρ, I, rr, ok, p⟩ => ?_
  refine then_E rr ok p fun μ1 I1 H1 d v e1 rr1 ok1 rd p1 => ?_
  refine then_E rr1 ok1 p1 fun μ2 I2 H2 e u e2 rr2 ok2 re p2 => ?_
  exact use2 (σ := σ) hg ok2 (RepV.ext e2 ok1 _ _ rd) re p2
/-- .. as a test -/
theorem st_cmp {a b : Expr} {f h : EF} {op : CmpOp} {g : D → D → MH → Res D} {pos : Pos} (hg : ∀ d e I x I', g d e I ≠ .err x I') (ho : OpR X (compareOp op) (rS2 X g)) (hm : notSet b = true) (ha : SE X W a f) (hb : SE X W b h) : ST X W (.Compare a [op] [b] pos) (boolE (bin2 g f h)) := by
  refine pt_weak (pt_cmpR ho ha hb (noMarks hm)) fun σ H Q ⟨μ, ρ, I, rr, ok, p⟩ => ?_
  have p' := RPost.bind p
  refine then_E rr ok p' fun μ1 I1 H1 d v e1 rr1 ok1 rd p1 => ?_
  refine then_E rr1 ok1 p1 fun μ2 I2 H2 e u e2 rr2 ok2 re p2 => ?_
  refine use2 (σ := σ) hg ok2 (RepV.ext e2 ok1 _ _ rd) re (p2.imp (S' := sE X fun x H' => ∃ k, x = V.bl k ∧ Q k H') (fun μ3 I3 H3 c e3 ok3 q3 w rw' => ?_) fun _ _ _ z => z)
  split at q3
  · cases rw'
    exact ⟨_, rfl, q3 μ3 H3 Ext.refl ok3⟩
  · exact q3.elim
theorem se_chain {a b c : Expr} {f h h' : EF} {op op' : CmpOp} {g g' : D → D → MH → Res D} {pos : Pos} (hg : ∀ d e I x I', g d e I ≠ .err x I') (hg' : ∀ d e I x I', g' d e I ≠ .err x I') (ho : OpR X (compareOp op) (rS2 X g)) (ho' : OpR X (compareOp op') (rS2 X g')) (hm : notSet c = true)
    (ha : SE X W a f) (hb : SE X W b h) (hc : SE X W c h') : SE X W (.Compare a [op, op'] [b, c] pos) (chain2 g g' f h h') := by
  refine pe_weak (pe_chain ho ho' ha hb hc (by unfold lastMarks; exact noMarks hm)) fun σ H Q ⟨μ, ρ, I, rr, ok, p⟩ => ?_
  refine then_E rr ok p fun μ1 I1 H1 d v e1 rr1 ok1 rd p1 => ?_
  refine then_E rr1 ok1 p1 fun μ2 I2 H2 e u e2 rr2 ok2 re p2 => ?_
  refine use2 (σ := σ) hg ok2 (RepV.ext e2 ok1 _ _ rd) re ((RPost.bind p2).imp (S' := sE X _) (fun μ3 I3 H3 c' e3 ok3 q3 w rw' => ?_) fun _ _ _ z => z)
  split at q3
  · cases rw'
    refine ⟨true, rfl, ?_⟩
    rw [if_pos rfl]
    refine then_E (rr2.ext e3 ok2) ok3 q3 fun μ4 I4 H4 z zv e4 rr4 ok4 rz p4 => ?_
    exact use2 (σ := σ) hg' ok4 (RepV.ext e4 ok3 _ _ (RepV.ext e3 ok2 _ _ re)) rz p4
  · cases rw'
    refine ⟨false, rfl, ?_⟩
    rw [if_neg Bool.false_ne_true]
    exact fin0 ok3 q3 rfl
  · exact q3.elim
theorem st_chain {a b c : Expr} {f h h' : EF} {op op' : CmpOp} {g g' : D → D → MH → Res D} {pos : Pos} (hg : ∀ d e I x I', g d e I ≠ .err x I') (hg' : ∀ d e I x I', g' d e I ≠ .err x I') (ho : OpR X (compareOp op) (rS2 X g)) (ho' : OpR X (compareOp op') (rS2 X g')) (hm : notSet c = true)
    (ha : SE X W a f) (hb : SE X W b h) (hc : SE X W c h') : ST X W (.Compare a [op, op'] [b, c] pos) (boolE (chain2 g g' f h h')) := by
  refine pt_weak (pt_chain ho ho' ha hb hc (by unfold lastMarks; exact noMarks hm)) fun σ H Q ⟨μ, ρ, I, rr, ok, p⟩ => ?_
  have p' := RPost.bind p
  refine then_E rr ok p' fun μ1 I1 H1 d v e1 rr1 ok1 rd p1 => ?_
  refine then_E rr1 ok1 p1 fun μ2 I2 H2 e u e2 rr2 ok2 re p2 => ?_
  refine use2 (σ := σ) hg ok2 (RepV.ext e2 ok1 _ _ rd) re ((RPost.bind p2).imp (S' := sE X _) (fun μ3 I3 H3 c' e3 ok3 q3 w rw' => ?_) fun _ _ _ z => z)
  split at q3
  · cases rw'
    refine ⟨true, rfl, ?_⟩
    rw [if_pos rfl]
    refine then_E (rr2.ext e3 ok2) ok3 q3 fun μ4 I4 H4 z zv e4 rr4 ok4 rz p4 => ?_
    refine use2 (σ := σ) hg' ok4 (RepV.ext e4 ok3 _ _ (RepV.ext e3 ok2 _ _ re)) rz (p4.imp (S' := sE X fun x H' => ∃ k, x = V.bl k ∧ Q k H') (fun μ5 I5 H5 c5 e5 ok5 q5 w5 rw5 => ?_) fun _ _ _ z => z)
    split at q5
    · cases rw5
      exact ⟨_, rfl, q5 μ5 H5 Ext.refl ok5⟩
    · exact q5.elim
  · cases rw'
    refine ⟨false, rfl, ?_⟩
    rw [if_neg Bool.false_ne_true]
    exact ⟨false, rfl, q3 μ3 H3 Ext.refl ok3 μ3 H3 Ext.refl ok3⟩
  · exact q3.elim
theorem se_and {a b : Expr} {rest : List Expr} {f g : EF} {pos : Pos} (ha : SE X W a f) (hb : SE X W (.BoolOp .And (b :: rest) pos) g) : SE X W (.BoolOp .And (a :: b :: rest) pos) (andE f g) := by
  refine pe_weak (pe_and ha hb) fun σ H Q ⟨μ, ρ, I, rr, ok, p⟩ => ?_
  refine then_E rr ok p fun μ1 I1 H1 d v e1 rr1 ok1 rd p1 => ?_
  split at p1
  · cases rd
    exact ⟨true, rfl, iteT ⟨μ1, ρ, I1, rr1, ok1, p1⟩⟩
  · cases rd
    exact ⟨false, rfl, iteF (fin0 ok1 p1 rfl)⟩
  · exact p1.elim
theorem se_or {a b : Expr} {rest : List Expr} {f g : EF} {pos : Pos} (ha : SE X W a f) (hb : SE X W (.BoolOp .Or (b :: rest) pos) g) : SE X W (.BoolOp .Or (a :: b :: rest) pos) (orE f g) := by
  refine pe_weak (pe_or ha hb) fun σ H Q ⟨μ, ρ, I, rr, ok, p⟩ => ?_
  refine then_E rr ok p fun μ1 I1 H1 d v e1 rr1 ok1 rd p1 => ?_
  split at p1
  · cases rd
    exact ⟨false, rfl, iteF ⟨μ1, ρ, I1, rr1, ok1, p1⟩⟩
  · cases rd
    exact ⟨true, rfl, iteT (fin0 ok1 p1 rfl)⟩
  · exact p1.elim
theorem se_not {a : Expr} {f : EF} {pos : Pos} (ha : SE X W a f) : SE X W (.UnaryOp .Not a pos) (un1 notB f) := by
  refine pe_weak (pe_not ha) fun σ H Q ⟨μ, ρ, I, rr, ok, p⟩ => ?_
  refine then_E rr ok p fun μ1 I1 H1 d v e1 rr1 ok1 rd p1 => ?_
  unfold notB at p1
  split at p1
  · cases rd
    exact ⟨_, rfl, fin0 ok1 p1 rfl⟩
  · exact p1.elim
theorem se_neg {a : Expr} {f : EF} {pos : Pos} (ha : SE X W a f) : SE X W (.UnaryOp .USub a pos) (un1 negD f) := by
  refine pe_weak (pe_un un_neg ha) fun σ H Q ⟨μ, ρ, I, rr, ok, p⟩ => ?_
  refine then_E rr ok p fun μ1 I1 H1 d v e1 rr1 ok1 rd p1 => ?_
  unfold negD at p1
  split at p1
  · cases rd
    exact ⟨_, rfl, fin0 ok1 p1 rfl⟩
  · exact p1.elim
theorem se_if {c a b : Expr} {t : TF} {f g : EF} {pos : Pos} (hc : ST X W c t) (ha : SE X W a f) (hb : SE X W b g) : SE X W (.IfExp c a b pos) (ifE t f g) := by
  refine pe_weak (pe_ifExp hc ha hb) fun σ H Q ⟨μ, ρ, I, rr, ok, p⟩ => ?_
  refine then_T rr ok p fun μ1 I1 H1 b e1 rr1 ok1 p1 => ?_
  cases b with
  | true => exact iteT ⟨μ1, ρ, I1, rr1, ok1, p1⟩
  | false => exact iteF ⟨μ1, ρ, I1, rr1, ok1, p1⟩
theorem sa_of : ∀ {es : List Expr} {fs : List EF}, PySem.Paired (SE X W) es fs → es.all notStar = true → SA X W es (seqA fs)
  | [], _, .nil, _ => pa_weak pa_nil fun σ H Q ⟨μ, ρ, I, rr, ok, p⟩ => p μ H Ext.refl ok [] rfl
  | e :: es, f :: fs, .cons h hs, hn => by
    rw [List.all_cons] at hn
    have hn' := Bool.and_eq_true_iff.mp hn
    refine pa_weak (pa_cons h (sa_of hs hn'.2) (star_cons hn'.1)) fun σ H Q ⟨μ, ρ, I, rr, ok, p⟩ => ?_
    refine then_E rr ok p fun μ1 I1 H1 d v e1 rr1 ok1 rd p1 => ?_
    refine then_A rr1 ok1 p1 fun μ2 I2 H2 ds vs e2 rr2 ok2 rds p2 => ?_
    exact p2 μ2 H2 Ext.refl ok2 (v :: vs) ⟨v, vs, rfl, RepV.ext e2 ok1 _ _ rd, rds⟩
theorem se_tup {es : List Expr} {fs : List EF} {n : Nat} {pos : Pos} (h : SA X W es (seqA fs)) : SE X W (.Tuple es n pos) (tupE fs) := by
  refine pe_weak (pe_tup h) fun σ H Q ⟨μ, ρ, I, rr, ok, p⟩ => ?_
  refine then_A rr ok p fun μ1 I1 H1 ds vs e1 rr1 ok1 rd p1 => ?_
  split at p1
  · rename_i hz
    exact ⟨by rw [← RVs.length rd]; exact of_decide_eq_true hz, fun q hq => fin1 ok1 p1 (same_upd hq) (rv_tup ok1 hq rd)⟩
  · exact p1.elim
theorem se_lst {es : List Expr} {fs : List EF} {pos : Pos} (h : SA X W es (seqA fs)) : SE X W (.List es pos) (lstE fs) := by
  refine pe_weak (pe_lst h) fun σ H Q ⟨μ, ρ, I, rr, ok, p⟩ => ?_
  refine then_A rr ok p fun μ1 I1 H1 ds vs e1 rr1 ok1 rd p1 => ?_
  split at p1
  · rename_i hz
    exact ⟨by rw [← RVs.length rd]; exact of_decide_eq_true hz, fun q hq => fin1 ok1 p1 (same_upd hq) (rv_lst ok1 hq rd)⟩
  · exact p1.elim
theorem ix_calm : ∀ d e I x I', ixD d e I ≠ .err x I' := by
  intro d e I x I' h
  unfold ixD at h
  split at h
  · split at h
    · unfold optR at h; split at h <;> cases h
    · cases h
  · split at h
    · unfold optR at h; split at h <;> cases h
    · cases h
  · cases h
theorem se_ix {a b : Expr} {f h : EF} {pos : Pos} (hs : notSlice b = true) (ha : SE X W a f) (hb : SE X W b h) : SE X W (.Subscript a b pos) (bin2 ixD f h) := by
  refine pe_weak (pe_ix ix_ok ha hb (plainIx hs)) fun σ H Q ⟨μ, ρ, I, rr, ok, p⟩ => ?_
  refine then_E rr ok p fun μ1 I1 H1 d v e1 rr1 ok1 rd p1 => ?_
  refine then_E rr1 ok1 p1 fun μ2 I2 H2 e u e2 rr2 ok2 re p2 => ?_
  exact use2 (σ := σ) ix_calm ok2 (RepV.ext e2 ok1 _ _ rd) re p2
/-- a part of a slice -/
def SO (X : Cx) (W : WX) (e : Option Expr) (f : Option EF) : Prop := PO X e (fun σ H Q => ∃ μ ρ I, RepR X.K μ I H ρ σ ∧ Ok X.K X.mg μ I H ∧ RPost X.K X.mg (fun c dd H' => W c dd σ H') μ I H (fun _ _ H' o => Q o H') (partE f ρ I))
theorem po_weak {X : Cx} {e : Option Expr} {t t' : TO} (h : PO X e t) (m : ∀ σ H Q, t' σ H Q → t σ H Q) : PO X e t' := ⟨fun pins s σ H Q I q => h.run pins s σ H Q I (m σ H Q q)⟩
theorem so_none : SO X W none none := po_weak po_none fun σ H Q ⟨μ, ρ, I, rr, ok, p⟩ => p μ H Ext.refl ok
theorem so_some {e : Expr} {f : EF} (h : SE X W e f) : SO X W (some e) (some f) := by
  refine po_weak (po_some h) fun σ H Q ⟨μ, ρ, I, rr, ok, p⟩ => ?_
  refine then_E rr ok p fun μ1 I1 H1 d v e1 rr1 ok1 rd p1 => ?_
  split at p1
  · cases rd
    exact ⟨_, rfl, p1 μ1 H1 Ext.refl ok1⟩
  · exact p1.elim
theorem sl_calm : ∀ d lo hi I x I', slD d lo hi I ≠ .err x I' := by
  intro d lo hi I x I' h
  unfold slD at h
  split at h
  · split at h <;> cases h
  · split at h <;> cases h
  · split at h <;> cases h
theorem se_slice {a : Expr} {lo hi : Option Expr} {f : EF} {l h : Option EF} {p2 pos : Pos} (ha : SE X W a f) (hl : SO X W lo l) (hh : SO X W hi h) : SE X W (.Subscript a (.Slice lo hi none p2) pos) (sliceE f l h) := by
  refine pe_weak (pe_slice sl_ok ha hl hh) fun σ H Q ⟨μ, ρ, I, rr, ok, p⟩ => ?_
  refine then_E rr ok p fun μ1 I1 H1 d v e1 rr1 ok1 rd p1 => ?_
  refine ⟨μ1, ρ, I1, rr1, ok1, (RPost.bind p1).imp (fun μ2 I2 H2 o e2 ok2 q2 => ?_) fun _ _ _ z => z⟩
  refine ⟨μ2, ρ, I2, rr1.ext e2 ok1, ok2, (RPost.bind q2).imp (fun μ3 I3 H3 o' e3 ok3 q3 => ?_) fun _ _ _ z => z⟩
  refine ⟨μ3, I3, d, ok3, RepV.ext e3 ok2 _ _ (RepV.ext e2 ok1 _ _ rd), ?_⟩
  cases e : slD d o o' I3 with
  | ok a I4 => rw [e] at q3; exact q3
  | err z I4 => exact absurd e (sl_calm _ _ _ _ _ _)
  | stuck => rw [e] at q3; exact q3
theorem se_call {C : CC} {k n : Nat} {F : FF} {x : Str} {p pos : Pos} {e : Expr} {es : List Expr} {fs : List EF} (M : Mt X C W k) (hF : C.fns.lookup x = some (n, F)) (hg : Gl X x) (hdb : (x == ("__debug__" : Str)) = false) (hn : (e :: es).all notStar = true)
    (ha : SA X W (e :: es) (seqA fs)) : SE X W (.Call (.Name x p) (e :: es) [] pos) (callE n F fs) := by
  obtain ⟨f, fd, ps, h1, h2, h3, h4⟩ := (M.mdl.fns x n F hF).ex
  have hn' := Bool.and_eq_true_iff.mp (by rw [List.all_cons] at hn; exact hn)
  refine pe_weak (pe_callS h4 M.room hg h1 h2 h3 (E := WE W) (fun σ => L2N.passAt M.tk σ) ha hdb (star_cons hn'.1) (star_any hn'.2)) fun σ H Q ⟨μ, ρ, I, rr, ok, p⟩ => ?_
  refine then_A rr ok p fun μ1 I1 H1 ds vs e1 rr1 ok1 rd p1 => ?_
  split at p1
  · rename_i hl
    exact ⟨by rw [← RVs.length rd]; exact hl, μ1, I1, ds, ok1, rd, p1⟩
  · exact p1.elim
theorem se_callB {x : Str} {id : String} {p pos : Pos} {e : Expr} {es : List Expr} {fs : List EF} {g : List D → MH → Res D} (hc : CallR X (.builtin id) (rSn X g)) (hg : Gl X x) (hm : X.mg x = none) (hv : bootBuiltins x = some (.builtin id)) (hn1 : x ≠ "__name__") (hdb : (x == ("__debug__" : Str)) = false)
    (hn : (e :: es).all notStar = true) (ha : SA X W (e :: es) (seqA fs)) : SE X W (.Call (.Name x p) (e :: es) [] pos) (bltE g fs) := by
  have hn' := Bool.and_eq_true_iff.mp (by rw [List.all_cons] at hn; exact hn)
  refine pe_weak (pe_callB hc hg hm hv ha hn1 hdb (star_cons hn'.1) (star_any hn'.2)) fun σ H Q ⟨μ, ρ, I, rr, ok, p⟩ => ?_
  refine then_A rr ok p fun μ1 I1 H1 ds vs e1 rr1 ok1 rd p1 => ?_
  exact ⟨μ1, I1, ds, ok1, rd, p1.calm⟩
theorem se_callTy {x : Str} {id : String} {p pos : Pos} {e : Expr} {es : List Expr} {fs : List EF} {g : List D → MH → Res D} (hc : CallR X (.type id) (rSn X g)) (hg : Gl X x) (hm : X.mg x = none) (hv : bootBuiltins x = some (.type id)) (hn1 : x ≠ "__name__") (hdb : (x == ("__debug__" : Str)) = false)
    (hn : (e :: es).all notStar = true) (ha : SA X W (e :: es) (seqA fs)) : SE X W (.Call (.Name x p) (e :: es) [] pos) (bltE g fs) := by
  have hn' := Bool.and_eq_true_iff.mp (by rw [List.all_cons] at hn; exact hn)
  refine pe_weak (pe_callTy hc hg hm hv ha hn1 hdb (star_cons hn'.1) (star_any hn'.2)) fun σ H Q ⟨μ, ρ, I, rr, ok, p⟩ => ?_
  refine then_A rr ok p fun μ1 I1 H1 ds vs e1 rr1 ok1 rd p1 => ?_
  exact ⟨μ1, I1, ds, ok1, rd, p1.calm⟩
/-! tests -/
theorem tru_calm : ∀ d I x I', truD d I ≠ .err x I' := by
  intro d I x I' h
  unfold truD at h
  split at h
  · cases h
  · cases h
  · cases h
  · split at h <;> cases h
  · split at h <;> cases h
theorem st_tru {e : Expr} {f : EF} (h : SE X W e f) (hp : plainTest e = true) : ST X W e (truE f) := by
  refine pt_weak (pt_truth h (plain_test hp)) fun σ H Q ⟨μ, ρ, I, rr, ok, p⟩ => ?_
  refine then_E rr ok p fun μ1 I1 H1 d v e1 rr1 ok1 rd p1 => ?_
  cases e : truD d I1 with
  | ok b I2 =>
    rw [e] at p1
    obtain ⟨z, t⟩ := tru_rep ok1 rd e
    subst z
    exact ⟨b, t, p1 μ1 H1 Ext.refl ok1⟩
  | err z I2 => exact absurd e (tru_calm _ _ _ _)
  | stuck => rw [e] at p1; exact p1.elim
theorem st_not {e : Expr} {f : TF} {pos : Pos} (h : ST X W e f) : ST X W (.UnaryOp .Not e pos) (notT f) := by
  refine pt_weak (pt_not h) fun σ H Q ⟨μ, ρ, I, rr, ok, p⟩ => ?_
  refine then_T rr ok p fun μ1 I1 H1 b e1 rr1 ok1 p1 => ?_
  exact p1 μ1 H1 Ext.refl ok1
/-- a chain of and, or: whatever its whole is -/
abbrev SW (X : Cx) (W : WX) (e : Expr) (f : TF) : Prop := PW X e (tT X W f)
theorem pw_weak {X : Cx} {e : Expr} {t t' : TT} (h : PW X e t) (m : ∀ σ H Q, t' σ H Q → t σ H Q) : PW X e t' := ⟨fun wh pins s σ H Q I q => h.run wh pins s σ H Q I (m σ H Q q)⟩
theorem sw_and {a b : Expr} {rest : List Expr} {f g : TF} {pos : Pos} (ha : ST X W a f) (hb : SW X W (.BoolOp .And (b :: rest) pos) g) : SW X W (.BoolOp .And (a :: b :: rest) pos) (andT f g) := by
  refine pw_weak (pw_and ha hb) fun σ H Q ⟨μ, ρ, I, rr, ok, p⟩ => ?_
  refine then_T rr ok p fun μ1 I1 H1 b e1 rr1 ok1 p1 => ?_
  cases b with
  | true => exact iteT ⟨μ1, ρ, I1, rr1, ok1, p1⟩
  | false => exact iteF (p1 μ1 H1 Ext.refl ok1)
theorem sw_or {a b : Expr} {rest : List Expr} {f g : TF} {pos : Pos} (ha : ST X W a f) (hb : SW X W (.BoolOp .Or (b :: rest) pos) g) : SW X W (.BoolOp .Or (a :: b :: rest) pos) (orT f g) := by
  refine pw_weak (pw_or ha hb) fun σ H Q ⟨μ, ρ, I, rr, ok, p⟩ => ?_
  refine then_T rr ok p fun μ1 I1 H1 b e1 rr1 ok1 p1 => ?_
  cases b with
  | true => exact iteT (p1 μ1 H1 Ext.refl ok1)
  | false => exact iteF ⟨μ1, ρ, I1, rr1, ok1, p1⟩
end
end MP
/-! MP5: statements by the trees' readings -/
namespace MP
open PySem PySem.Spec L2

/-! ### ends -/
def SPost (X : Cx) (W : WX) (De : Ends) (μ : List Addr) (I : MH) (H : Hp) : SRes → Prop
  | .nx ρ I' => ∀ μ' σ' H', Ext μ I H μ' I' H' → Ok X.K X.mg μ' I' H' → RepR X.K μ' I' H' ρ σ' → De.nx σ' H'
  | .ret d I' => ∀ μ' H' v, Ext μ I H μ' I' H' → Ok X.K X.mg μ' I' H' → RV X.K μ' I' H' d v → De.rt v H'
  | .brk ρ I' => ∀ μ' σ' H', Ext μ I H μ' I' H' → Ok X.K X.mg μ' I' H' → RepR X.K μ' I' H' ρ σ' → De.bk σ' H'
  | .cnt ρ I' => ∀ μ' σ' H', Ext μ I H μ' I' H' → Ok X.K X.mg μ' I' H' → RepR X.K μ' I' H' ρ σ' → De.ct σ' H'
  | .err x I' => ∀ μ' σ' H' c dd, Ext μ I H μ' I' H' → Ok X.K X.mg μ' I' H' → RepX X.K X.mg μ' I' H' x c dd → W c dd σ' H'
  | .stuck => False
def tS (X : Cx) (W : WX) (f : SF) : TS := fun De σ H => ∃ μ ρ I, RepR X.K μ I H ρ σ ∧ Ok X.K X.mg μ I H ∧ SPost X W De μ I H (f ρ I)
abbrev SS (X : Cx) (W : WX) (st : Stmt) (f : SF) : Prop := PS X st (tS X W f)
abbrev SSs (X : Cx) (W : WX) (st : List Stmt) (f : SF) : Prop := PSs X st (tS X W f)
theorem ps_weak {X : Cx} {e : Stmt} {t t' : TS} (h : PS X e t) (m : ∀ De σ H, t' De σ H → t De σ H) : PS X e t' := ⟨fun pins s σ H Q I q => h.run pins s σ H Q I (m Q σ H q)⟩
theorem pss_weak {X : Cx} {e : List Stmt} {t t' : TS} (h : PSs X e t) (m : ∀ De σ H, t' De σ H → t De σ H) : PSs X e t' := ⟨fun pins s σ H Q I q => h.run pins s σ H Q I (m Q σ H q)⟩

/-- (a place for a wish about W; nothing is wished) -/
def Flat (_ : WX) : Prop := True
section
variable {X : Cx} {W : WX} {De De' : Ends} {μ μ' : List Addr} {I I' : MH} {H H' : Hp}
theorem SPost.ext (e : Ext μ I H μ' I' H') {r : SRes} (p : SPost X W De μ I H r) : SPost X W De μ' I' H' r := by
  cases r with
  | nx ρ I2 => exact fun μ2 σ2 H2 e2 ok2 => p μ2 σ2 H2 (e.trans e2) ok2
  | ret d I2 => exact fun μ2 H2 v e2 ok2 => p μ2 H2 v (e.trans e2) ok2
  | brk ρ I2 => exact fun μ2 σ2 H2 e2 ok2 => p μ2 σ2 H2 (e.trans e2) ok2
  | cnt ρ I2 => exact fun μ2 σ2 H2 e2 ok2 => p μ2 σ2 H2 (e.trans e2) ok2
  | err x I2 => exact fun μ2 σ2 H2 c dd e2 ok2 => p μ2 σ2 H2 c dd (e.trans e2) ok2
  | stuck => exact p
/-- an expression's end within a statement -/
theorem bindS_post {α : Type} {r : Res α} {k : α → MH → SRes} (hW : Flat W) {σ : L2.St} (p : SPost X W De μ I H (r.bindS k)) :
    RPost X.K X.mg (fun c dd H' => W c dd σ H') μ I H (fun μ' I' H' a => SPost X W De μ' I' H' (k a I')) r := by
  cases r with
  | ok a I2 => exact fun μ2 H2 e2 ok2 => SPost.ext (r := k a I2) e2 p
  | err x I2 => exact fun μ2 H2 c dd e2 ok2 rx => p μ2 σ H2 c dd e2 ok2 rx
  | stuck => exact p
end


def nxS : SF := fun ρ I => .nx ρ I
def seqS (f g : SF) : SF := fun ρ I => match f ρ I with
  | .nx ρ1 I1 => g ρ1 I1
  | r => r
def ifS (t : TF) (f g : SF) : SF := fun ρ I => (t ρ I).bindS fun b I1 => if b then f ρ I1 else g ρ I1
def retS (f : EF) : SF := fun ρ I => (f ρ I).bindS fun d I1 => .ret d I1
def exprS (f : EF) : SF := fun ρ I => (f ρ I).bindS fun _ I1 => .nx ρ I1
def asgS (f : EF) (t : D → SF) : SF := fun ρ I => (f ρ I).bindS fun d I1 => t d ρ I1
def nameT (i : Nat) : D → SF := fun d ρ I => .nx (ρ.set i (some d)) I
def augS (i : Nat) (g : D → D → MH → Res D) (f : EF) : SF := fun ρ I => match ρ[i]? with
  | some (some x) => (f ρ I).bindS fun y I1 => (g x y I1).calm.bindS fun z I2 => .nx (ρ.set i (some z)) I2
  | _ => .stuck
def whileN (t : TF) (b : SF) : Nat → SF
  | 0 => fun _ _ => .stuck
  | n + 1 => fun ρ I => (t ρ I).bindS fun c I1 => if c then (match b ρ I1 with
      | .nx ρ2 I2 => whileN t b n ρ2 I2
      | .cnt ρ2 I2 => whileN t b n ρ2 I2
      | .brk ρ2 I2 => .nx ρ2 I2
      | r => r) else .nx ρ I1
def whileFuel : Nat := 100000000
def whileS (t : TF) (b : SF) : SF := whileN t b whileFuel

section
variable {X : Cx} {W : WX}
theorem ss_nil : SSs X W [] nxS := pss_weak pss_nil fun De σ H ⟨μ, ρ, I, rr, ok, p⟩ => p μ σ H Ext.refl ok rr
theorem ss_cons {st : Stmt} {rest : List Stmt} {f g : SF} (h1 : SS X W st f) (h2 : SSs X W rest g) : SSs X W (st :: rest) (seqS f g) := by
  refine pss_weak (pss_cons h1 h2) fun De σ H ⟨μ, ρ, I, rr, ok, p⟩ => ⟨μ, ρ, I, rr, ok, ?_⟩
  unfold seqS at p
  cases e : f ρ I with
  | nx ρ1 I1 => rw [e] at p; exact fun μ1 σ1 H1 e1 ok1 rr1 => ⟨μ1, ρ1, I1, rr1, ok1, SPost.ext e1 p⟩
  | ret d I1 => rw [e] at p; exact p
  | brk ρ1 I1 => rw [e] at p; exact p
  | cnt ρ1 I1 => rw [e] at p; exact p
  | err x I1 => rw [e] at p; exact p
  | stuck => rw [e] at p; exact p
theorem ss_if {c : Expr} {a b : List Stmt} {t : TF} {f g : SF} {pos : Pos} (hW : Flat W) (hc : ST X W c t) (ha : SSs X W a f) (hb : SSs X W b g) : SS X W (.If c a b pos) (ifS t f g) := by
  refine ps_weak (ps_if hc ha hb) fun De σ H ⟨μ, ρ, I, rr, ok, p⟩ => ?_
  refine ⟨μ, ρ, I, rr, ok, (bindS_post hW p).imp (fun μ1 I1 H1 b e1 ok1 q => ?_) fun _ _ _ z => z⟩
  cases b with
  | true => exact iteT ⟨μ1, ρ, I1, rr.ext e1 ok, ok1, q⟩
  | false => exact iteF ⟨μ1, ρ, I1, rr.ext e1 ok, ok1, q⟩
theorem ss_ret {e : Expr} {f : EF} {pos : Pos} (hW : Flat W) (h : SE X W e f) : SS X W (.Return (some e) pos) (retS f) := by
  refine ps_weak (ps_ret h) fun De σ H ⟨μ, ρ, I, rr, ok, p⟩ => ?_
  refine ⟨μ, ρ, I, rr, ok, (bindS_post hW p).imp (fun μ1 I1 H1 d e1 ok1 q v rv => ?_) fun _ _ _ z => z⟩
  exact q μ1 H1 v Ext.refl ok1 rv
theorem ss_retN {pos : Pos} : SS X W (.Return none pos) (fun _ I => .ret .non I) := ps_weak ps_retN fun De σ H ⟨μ, ρ, I, rr, ok, p⟩ => p μ H .non Ext.refl ok rfl
theorem ss_pass {pos : Pos} : SS X W (.Pass pos) nxS := ps_weak ps_pass fun De σ H ⟨μ, ρ, I, rr, ok, p⟩ => p μ σ H Ext.refl ok rr
theorem ss_break {pos : Pos} : SS X W (.Break pos) (fun ρ I => .brk ρ I) := ps_weak ps_break fun De σ H ⟨μ, ρ, I, rr, ok, p⟩ => p μ σ H Ext.refl ok rr
theorem ss_cont {pos : Pos} : SS X W (.Continue pos) (fun ρ I => .cnt ρ I) := ps_weak ps_continue fun De σ H ⟨μ, ρ, I, rr, ok, p⟩ => p μ σ H Ext.refl ok rr
theorem ss_expr {e : Expr} {f : EF} {pos : Pos} (hW : Flat W) (hn : notComp e = true) (h : SE X W e f) : SS X W (.Expr e pos) (exprS f) := by
  refine ps_weak (ps_expr h (noSwap hn)) fun De σ H ⟨μ, ρ, I, rr, ok, p⟩ => ?_
  refine ⟨μ, ρ, I, rr, ok, (bindS_post hW p).imp (fun μ1 I1 H1 d e1 ok1 q v rv => ?_) fun _ _ _ z => z⟩
  exact q μ1 σ H1 Ext.refl ok1 (rr.ext e1 ok)
theorem RepR.set {K : PySem.W.Frag} {μ : List Addr} {I : MH} {H : Hp} {ρ : En} {σ : L2.St} (r : RepR K μ I H ρ σ) {d : D} {v : V} (rd : RV K μ I H d v) (i : Nat) : RepR K μ I H (ρ.set i (some d)) (σ.set i (some v)) := by
  refine ⟨by rw [List.length_set, List.length_set]; exact r.1, fun j d' h => ?_⟩
  by_cases hj : i = j
  · subst hj
    obtain ⟨hlt, e⟩ := List.getElem?_eq_some_iff.mp h
    rw [List.length_set] at hlt
    rw [List.getElem?_set_self hlt] at h
    cases h
    exact ⟨v, List.getElem?_set_self (by rw [← r.1]; exact hlt), rd⟩
  · rw [List.getElem?_set_ne hj] at h ⊢
    exact r.2 j d' h
/-! targets -/
def tG (X : Cx) (W : WX) (t : D → SF) : TG := fun v σ H Q => ∃ μ ρ I d, RepR X.K μ I H ρ σ ∧ Ok X.K X.mg μ I H ∧ RV X.K μ I H d v ∧ SPost X W { nx := Q, rt := fun _ _ => False } μ I H (t d ρ I)
abbrev SG (X : Cx) (W : WX) (tg : Expr) (t : D → SF) : Prop := PG X tg (tG X W t)
theorem pg_weak {X : Cx} {e : Expr} {t t' : TG} (h : PG X e t) (m : ∀ v σ H Q, t' v σ H Q → t v σ H Q) : PG X e t' := ⟨fun pins s σ H v u Q I r q => h.run pins s σ H v u Q I r (m v σ H Q q)⟩
theorem sg_name {i : Nat} {x : Str} {pos : Pos} (hN : X.N.Nodup) (hi : X.N[i]? = some x) (hx : Loc X.env.scope x) (hf : X.fn x = true ∨ X.env.scope.names.lookup x = some .local) : SG X W (.Name x pos) (nameT i) :=
  pg_weak (pg_name hN hi hx hf) fun v σ H Q ⟨μ, ρ, I, d, rr, ok, rd, p⟩ => p μ _ H Ext.refl ok (rr.set rd i)
/-- several names in order -/
def namesT : List Nat → List D → SF
  | [], [] => fun ρ I => .nx ρ I
  | i :: is, d :: ds => fun ρ I => namesT is ds (ρ.set i (some d)) I
  | _, _ => fun _ _ => .stuck
def tupT (is : List Nat) : D → SF := fun d ρ I => match d with
  | .tup ds => namesT is ds ρ I
  | _ => .stuck
def isName : Expr → Option Str
  | .Name x _ => some x
  | _ => none
theorem namesT_len : ∀ (is : List Nat) (ds : List D) (ρ : En) (I : MH), namesT is ds ρ I ≠ .stuck → is.length = ds.length
  | [], [], _, _, _ => rfl
  | i :: is, d :: ds, ρ, I, h => by
    have := namesT_len is ds (ρ.set i (some d)) I h
    simp [this]
  | [], _ :: _, _, _, h => absurd rfl h
  | _ :: _, [], _, _, h => absurd rfl h
inductive NamesOk (X : Cx) : List Expr → List Nat → Prop
  | nil : NamesOk X [] []
  | cons {x : Str} {pos : Pos} {i : Nat} {es : List Expr} {is : List Nat} : X.N[i]? = some x → Loc X.env.scope x → (X.fn x = true ∨ X.env.scope.names.lookup x = some .local) → NamesOk X es is → NamesOk X (.Name x pos :: es) (i :: is)
def tGs (X : Cx) (W : WX) (is : List Nat) : TGs := fun vs σ H Q => ∃ μ ρ I ds, RepR X.K μ I H ρ σ ∧ Ok X.K X.mg μ I H ∧ RVs X.K μ I H ds vs ∧ SPost X W { nx := Q, rt := fun _ _ => False } μ I H (namesT is ds ρ I)
theorem pgs_weak {X : Cx} {e : List Expr} {t t' : TGs} (h : PGs X e t) (m : ∀ v σ H Q, t' v σ H Q → t v σ H Q) : PGs X e t' := ⟨fun pins s σ H v u Q I r q => h.run pins s σ H v u Q I r (m v σ H Q q)⟩
theorem sgs_names (hN : X.N.Nodup) : ∀ {es : List Expr} {is : List Nat}, NamesOk X es is → PGs X es (tGs X W is)
  | [], [], .nil => pgs_weak pgs_nil fun vs σ H Q ⟨μ, ρ, I, ds, rr, ok, rd, p⟩ => by
    cases ds with
    | nil => cases rd; exact ⟨rfl, p μ σ H Ext.refl ok rr⟩
    | cons d ds => exact p.elim
  | _ :: es, i :: is, .cons h1 h2 h3 h4 => by
    refine pgs_weak (pgs_cons (pg_name hN h1 h2 h3) (sgs_names hN h4)) fun vs σ H Q ⟨μ, ρ, I, ds, rr, ok, rd, p⟩ => ?_
    cases ds with
    | nil => exact p.elim
    | cons d ds =>
      obtain ⟨v, r, rfl, r1, r2⟩ := rd
      exact ⟨v, r, rfl, μ, _, I, ds, rr.set r1 i, ok, r2, p⟩
theorem each_len {X : Cx} : ∀ {es : List Expr} {is : List Nat}, NamesOk X es is → (assignEach es X.env).length = is.length
  | [], [], .nil => rfl
  | _ :: es, i :: is, .cons _ _ _ h => by
    show (assignEach es X.env).length + 1 = is.length + 1
    rw [each_len h]
theorem each_star {X : Cx} : ∀ {es : List Expr} {is : List Nat}, NamesOk X es is → (assignEach es X.env).findIdx? (·.1) = none
  | [], [], .nil => rfl
  | .Name x pos :: es, i :: is, .cons _ _ _ h => by
    show List.findIdx? (·.1) ((false, assign (.Name x pos) X.env) :: assignEach es X.env) = none
    rw [List.findIdx?_cons, each_star h]
    rfl
theorem sg_tup {es : List Expr} {is : List Nat} {n : Nat} {pos : Pos} (hc : X.calm = true) (hN : X.N.Nodup) (h : NamesOk X es is) : SG X W (.Tuple es n pos) (tupT is) := by
  refine pg_weak (pg_tup (n := is.length) hc (sgs_names (W := W) hN h) (each_len h) (each_star h)) fun v σ H Q ⟨μ, ρ, I, d, rr, ok, rd, p⟩ => ?_
  unfold tupT at p
  split at p
  · rename_i ds
    obtain ⟨a, vs, rfl, q1, r1⟩ := rd
    have hl := namesT_len is ds ρ I fun z => by rw [z] at p; exact p
    exact ⟨a, vs, rfl, q1, by rw [← RVs.length r1]; exact hl.symm, μ, ρ, I, ds, rr, ok, r1, p⟩
  · exact p.elim
/-- x[i] = .. of a list that has a cell -/
def setIx (o i v : D) (I : MH) : Res Unit :=
  match o, i with
  | .loc n, .int k => match I[n]? with
    | some (.lst xs) => match ixN xs.length k with
      | some j => .ok () (I.set n (.lst (xs.set j v)))
      | none => .stuck
    | _ => .stuck
  | _, _ => .stuck
def subT (fo fi : EF) : D → SF := fun d ρ I => (fo ρ I).bindS fun o I1 => (fi ρ I1).bindS fun i I2 => (setIx o i d I2).bindS fun _ I3 => .nx ρ I3
def isSub : Expr → Bool
  | .Subscript _ i _ => notSlice i
  | _ => false
theorem sg_sub {o i : Expr} {fo fi : EF} {pos : Pos} (hW : Flat W) (hs : notSlice i = true) (ho : SE X W o fo) (hi : SE X W i fi) : SG X W (.Subscript o i pos) (subT fo fi) := by
  refine pg_weak (pg_sub ho hi set_list (by intro v; cases i <;> first | rfl | cases hs)) fun v σ H Q ⟨μ, ρ, I, d, rr, ok, rd, p⟩ => ?_
  refine ⟨μ, ρ, I, rr, ok, (bindS_post hW p).imp (fun μ1 I1 H1 o' e1 ok1 q ov ro => ?_) fun _ _ _ z => z⟩
  refine ⟨μ1, ρ, I1, rr.ext e1 ok, ok1, (bindS_post hW q).imp (fun μ2 I2 H2 i' e2 ok2 q2 iv ri => ?_) fun _ _ _ z => z⟩
  have ro2 := RepV.ext e2 ok1 _ _ ro
  have rd2 := RepV.ext e2 ok1 _ _ (RepV.ext e1 ok _ _ rd)
  have rr2 := (rr.ext e1 ok).ext e2 ok1
  cases hr : setIx o' i' d I2 with
  | ok u I3 =>
    rw [hr] at q2
    unfold setIx at hr
    split at hr
    · rename_i n k
      split at hr
      · rename_i xs hx
        split at hr
        · rename_i j hj
          cases hr
          obtain ⟨a, rfl, ha⟩ := ro2
          cases ri
          obtain ⟨vs, hv, r1⟩ := ok2.cell n _ a hx ha
          have st := ok2.write (c' := .lst (xs.set j d)) (o := .lst (vs.set j v)) ha hx rfl rfl fun e => ⟨_, upd_same, RVs.set (RepV.ext e ok2 _ _ rd2) j (RepVs.ext e ok2 _ _ r1)⟩
          refine ⟨a, vs, k, j, rfl, rfl, hv, by rw [← RVs.length r1]; exact hj, ?_⟩
          exact q2 μ2 σ _ st.1 st.2 (rr2.ext st.1 ok2)
        · cases hr
      · cases hr
    · cases hr
  | err x I3 =>
    exfalso
    unfold setIx at hr
    repeat' (split at hr)
    all_goals cases hr
  | stuck => rw [hr] at q2; exact q2.elim
theorem ss_asg {tg e : Expr} {f : EF} {t : D → SF} {pos : Pos} (hW : Flat W) (hn : notComp e = true) (hsw : swappedStores [tg] e X.env = pure none) (h1 : (assignEach [tg] X.env).map (·.2) = [assign tg X.env]) (he : SE X W e f) (hg : SG X W tg t)
    (ht : ∀ d ρ I, (∃ ρ' I', t d ρ I = .nx ρ' I') ∨ (∃ x I', t d ρ I = .err x I') ∨ t d ρ I = .stuck) : SS X W (.Assign [tg] e pos) (asgS f t) := by
  refine ps_weak (ps_asg he hg (by unfold swapsWithSole; exact noSwap hn) hsw h1) fun De σ H ⟨μ, ρ, I, rr, ok, p⟩ => ?_
  refine ⟨μ, ρ, I, rr, ok, (bindS_post hW p).imp (fun μ1 I1 H1 d e1 ok1 q v rv => ?_) fun _ _ _ z => z⟩
  refine ⟨μ1, ρ, I1, d, rr.ext e1 ok, ok1, rv, ?_⟩
  rcases ht d ρ I1 with ⟨ρ', I', z⟩ | ⟨x, I', z⟩ | z
  · rw [z] at q ⊢; exact q
  · rw [z] at q ⊢; exact q
  · rw [z] at q; exact q.elim
theorem ss_set {x : Str} {i : Nat} {e : Expr} {f : EF} {pos pos' : Pos} (hW : Flat W) (hN : X.N.Nodup) (hi : X.N[i]? = some x) (hx : Loc X.env.scope x) (hf : X.fn x = true ∨ X.env.scope.names.lookup x = some .local) (hn : notComp e = true) (he : SE X W e f) :
    SS X W (.Assign [.Name x pos'] e pos) (asgS f (nameT i)) := by
  refine ps_weak (ps_set hN hi hx he (noSwap hn) hf) fun De σ H ⟨μ, ρ, I, rr, ok, p⟩ => ?_
  refine ⟨μ, ρ, I, rr, ok, (bindS_post hW p).imp (fun μ1 I1 H1 d e1 ok1 q v rv => ?_) fun _ _ _ z => z⟩
  exact q μ1 _ H1 Ext.refl ok1 ((rr.ext e1 ok).set rv i)
end
end MP
/-! MP6: loops, methods, in-place changes -/
namespace MP
open PySem PySem.Spec L2

section
variable {X : Cx} {W : WX}
theorem ss_while {c : Expr} {body : List Stmt} {t : TF} {f : SF} {pos : Pos} (hW : Flat W) (hp : PassesOwn (model X.prog X.w) X.A X.env X.xe) (hc : ST X W c t) (hb : SSs X W body f) : SS X W (.While c body [] pos) (whileS t f) := by
  refine ps_weak (ps_while hp hc hb) fun De σ H ⟨μ, ρ, I, rr, ok, p⟩ => ?_
  refine ⟨fun m σ H => ∃ μ ρ I, RepR X.K μ I H ρ σ ∧ Ok X.K X.mg μ I H ∧ SPost X W De μ I H (whileN t f m ρ I), ⟨whileFuel, μ, ρ, I, rr, ok, p⟩, ?_⟩
  rintro m σ H ⟨μ, ρ, I, rr, ok, p⟩
  cases m with
  | zero => exact p.elim
  | succ m =>
    refine ⟨μ, ρ, I, rr, ok, (bindS_post hW p).imp (fun μ1 I1 H1 b e1 ok1 q => ?_) fun _ _ _ z => z⟩
    cases b with
    | false => exact iteF (q μ1 σ H1 Ext.refl ok1 (rr.ext e1 ok))
    | true =>
      refine iteT ⟨fun σ' H' => ∃ μ ρ I, RepR X.K μ I H' ρ σ' ∧ Ok X.K X.mg μ I H' ∧ SPost X W De μ I H' (whileN t f m ρ I), fun σ' H' h => ⟨m, Nat.lt_succ_self m, h⟩, μ1, ρ, I1, rr.ext e1 ok, ok1, ?_⟩
      have q' : SPost X W De μ1 I1 H1 (match f ρ I1 with
        | .nx ρ2 I2 => whileN t f m ρ2 I2
        | .cnt ρ2 I2 => whileN t f m ρ2 I2
        | .brk ρ2 I2 => .nx ρ2 I2
        | r => r) := q
      cases e : f ρ I1 with
      | nx ρ2 I2 => rw [e] at q'; exact fun μ2 σ2 H2 e2 ok2 rr2 => ⟨μ2, ρ2, I2, rr2, ok2, SPost.ext e2 q'⟩
      | cnt ρ2 I2 => rw [e] at q'; exact fun μ2 σ2 H2 e2 ok2 rr2 => ⟨μ2, ρ2, I2, rr2, ok2, SPost.ext e2 q'⟩
      | brk ρ2 I2 => rw [e] at q'; exact q'
      | ret d I2 => rw [e] at q'; exact q'
      | err x I2 => rw [e] at q'; exact q'
      | stuck => rw [e] at q'; exact q'
end

/-! ### what is walked -/
structure Itr where
  items : List D
  watch : Option Nat
open Classical in
noncomputable def watchOk (ip : Itr) (I : MH) : Bool := match ip.watch with
  | none => true
  | some n => if I[n]? = some (.lst ip.items) then true else false
/-- the iterator of the layer does what the items say, wherever the world has gone from here -/
def ItSim (X : Cx) (μ : List Addr) (I : MH) (H : Hp) (J : It) (ip : Itr) : Prop :=
  ∀ μ' I' H', Ext μ I H μ' I' H' → Ok X.K X.mg μ' I' H' → watchOk ip I' = true → ∀ i : Nat,
    (∀ d, ip.items[i]? = some d → J.go i H' ∧ ∀ x H'', J.yld i H' x H'' → (∀ a o, H' a = some o → H'' a = some o) ∧ RV X.K μ' I' H'' d x) ∧ (ip.items.length ≤ i → J.stop i H')
abbrev IF := En → MH → Res Itr
def tI (X : Cx) (W : WX) (f : IF) : TI := fun σ H R => ∃ μ ρ I, RepR X.K μ I H ρ σ ∧ Ok X.K X.mg μ I H ∧ RPost X.K X.mg (fun c dd H' => W c dd σ H') μ I H (fun μ' I' H' ip => ∀ J, ItSim X μ' I' H' J ip → R J H') (f ρ I)
abbrev SI (X : Cx) (W : WX) (tg e : Expr) (f : IF) : Prop := PI X tg e (tI X W f)
theorem pi_weak {X : Cx} {tg e : Expr} {t t' : TI} (h : PI X tg e t) (m : ∀ σ H Q, t' σ H Q → t σ H Q) : PI X tg e t' := ⟨fun pins s σ H Q I q => h.run pins s σ H Q I (m σ H Q q)⟩
theorem pi_or {X : Cx} {tg e : Expr} {t t' : TI} (h : PI X tg e t) (h' : PI X tg e t') : PI X tg e (fun σ H R => t σ H R ∨ t' σ H R) :=
  ⟨fun pins s σ H Q I q => q.elim (h.run pins s σ H Q I) (h'.run pins s σ H Q I)⟩
/-- the items of a value that a for may walk -/
def itOf (I : MH) : D → Option Itr
  | .tup xs => some ⟨xs, none⟩
  | .lst xs => some ⟨xs, none⟩
  | .scr ns => some ⟨ns.map .int, none⟩
  | .loc n => match I[n]? with
    | some (.lst xs) => some ⟨xs, some n⟩
    | _ => none
  | .str s => some ⟨s.map fun c => .str [c], none⟩
  | _ => none
def seqI (f : EF) : IF := fun ρ I => (f ρ I).bind fun d I1 => optR I1 (itOf I1 d)
section
variable {X : Cx} {W : WX}
theorem it_list {μ : List Addr} {I : MH} {H : Hp} {d : D} {v : V} {ip : Itr} (ok : Ok X.K X.mg μ I H) (r : RV X.K μ I H d v) (h : itOf I d = some ip) (hs : ∀ xs, d ≠ .tup xs) (hs2 : ∀ s, d ≠ .str s) :
    ∃ a, v = .ref a ∧ (∃ xs, SqL X.K H a xs) ∧ ItSim X μ I H (Itl X.K a) ip := by
  cases d with
  | tup xs => exact absurd rfl (hs xs)
  | str s => exact absurd rfl (hs2 s)
  | lst xs =>
    obtain ⟨a, vs, rfl, h2, h3, h4⟩ := id r
    cases h
    refine ⟨a, rfl, ⟨vs, SqL.of h2⟩, fun μ' I' H' e' ok' _ i => ⟨fun d hd => ?_, fun hl => ?_⟩⟩
    · obtain ⟨b, ws, z, g2, g3, g4⟩ := RepV.ext e' ok _ _ r
      cases z
      obtain ⟨w, hw, rw'⟩ := RVs.get g4 hd
      refine ⟨⟨ws, w, SqL.of g2, hw⟩, fun x H'' ⟨e1, e2⟩ => ?_⟩
      subst e1
      refine ⟨fun _ _ z => z, ?_⟩
      have := e2 ws (SqL.of g2)
      rw [hw] at this
      cases this
      exact rw'
    · obtain ⟨b, ws, z, g2, g3, g4⟩ := RepV.ext e' ok _ _ r
      cases z
      exact ⟨ws, SqL.of g2, by rw [← RVs.length g4]; exact hl⟩
  | scr ns =>
    obtain ⟨a, rfl, h2⟩ := id r
    cases h
    refine ⟨a, rfl, ⟨_, h2.sql⟩, fun μ' I' H' e' ok' _ i => ⟨fun d hd => ?_, fun hl => ?_⟩⟩
    · obtain ⟨b, z, g2⟩ := RepV.ext e' ok _ _ r
      cases z
      have hd' : (ns.map D.int)[i]? = some d := hd
      rw [List.getElem?_map] at hd'
      cases hn : ns[i]? with
      | none => rw [hn] at hd'; cases hd'
      | some n =>
        rw [hn] at hd'
        cases hd'
        have hv : (ns.map V.int)[i]? = some (V.int n) := by rw [List.getElem?_map, hn]; rfl
        refine ⟨⟨_, _, g2.sql, hv⟩, fun x H'' ⟨e1, e2⟩ => ?_⟩
        subst e1
        refine ⟨fun _ _ z => z, ?_⟩
        have := e2 _ (g2.sql)
        rw [hv] at this
        cases this
        rfl
    · obtain ⟨b, z, g2⟩ := RepV.ext e' ok _ _ r
      cases z
      refine ⟨_, g2.sql, ?_⟩
      have : (ns.map D.int).length ≤ i := hl
      rw [List.length_map] at this ⊢
      exact this
  | loc n =>
    obtain ⟨a, rfl, h2⟩ := id r
    unfold itOf at h
    dsimp only at h
    split at h
    · rename_i xs hx
      cases h
      obtain ⟨vs, g1, g2⟩ := ok.cell n _ a hx h2
      refine ⟨a, rfl, ⟨vs, SqL.of g1⟩, fun μ' I' H' e' ok' wo i => ?_⟩
      have hc : I'[n]? = some (.lst xs) := by
        unfold watchOk at wo
        dsimp only at wo
        split at wo
        · assumption
        · cases wo
      obtain ⟨ws, k1, k2⟩ := ok'.cell n _ a hc (e'.pre n a h2)
      refine ⟨fun d hd => ?_, fun hl => ?_⟩
      · obtain ⟨w, hw, rw'⟩ := RVs.get k2 hd
        refine ⟨⟨ws, w, SqL.of k1, hw⟩, fun x H'' ⟨e1, e2⟩ => ?_⟩
        subst e1
        refine ⟨fun _ _ z => z, ?_⟩
        have := e2 ws (SqL.of k1)
        rw [hw] at this
        cases this
        exact rw'
      · exact ⟨ws, SqL.of k1, by rw [← RVs.length k2]; exact hl⟩
    · cases h
  | _ => cases h
theorem it_tup {μ : List Addr} {I : MH} {H : Hp} {xs : List D} {v : V} (ok : Ok X.K X.mg μ I H) (r : RV X.K μ I H (.tup xs) v) :
    ∃ a, v = .ref a ∧ (∃ xs, SqT X.K H a xs) ∧ ItSim X μ I H (Itt X.K a) ⟨xs, none⟩ := by
  obtain ⟨a, vs, rfl, h2, h4⟩ := id r
  refine ⟨a, rfl, ⟨vs, h2⟩, fun μ' I' H' e' ok' _ i => ⟨fun d hd => ?_, fun hl => ?_⟩⟩
  · obtain ⟨b, ws, z, g2, g4⟩ := RepV.ext e' ok _ _ r
    cases z
    obtain ⟨w, hw, rw'⟩ := RVs.get g4 hd
    refine ⟨⟨ws, w, g2, hw⟩, fun x H'' ⟨e1, e2⟩ => ?_⟩
    subst e1
    refine ⟨fun _ _ z => z, ?_⟩
    have := e2 ws g2
    rw [hw] at this
    cases this
    exact rw'
  · obtain ⟨b, ws, z, g2, g4⟩ := RepV.ext e' ok _ _ r
    cases z
    exact ⟨ws, g2, by rw [← RVs.length g4]; exact hl⟩
theorem si_seq {tg e : Expr} {f : EF} (h : SE X W e f) : SI X W tg e (seqI f) := by
  refine pi_weak (pi_or (pi_list h) (pi_or (pi_tup h) (pi_str h))) fun σ H R ⟨μ, ρ, I, rr, ok, p⟩ => ?_
  cases hf : f ρ I with
  | ok d I1 =>
    have p0 := p
    unfold seqI at p0
    rw [hf] at p0
    cases hi : itOf I1 d with
    | none =>
      have p1 : RPost X.K X.mg _ μ I H _ (optR I1 (itOf I1 d)) := p0
      rw [hi] at p1
      exact p1.elim
    | some ip =>
      have fin : ∀ μ1 H1, Ext μ I H μ1 I1 H1 → Ok X.K X.mg μ1 I1 H1 → ∀ J, ItSim X μ1 I1 H1 J ip → R J H1 := fun μ1 H1 e1 ok1 => by
        have p1 : RPost X.K X.mg _ μ I H _ (optR I1 (itOf I1 d)) := p0
        rw [hi] at p1
        exact p1 μ1 H1 e1 ok1
      have mk : ∀ {Q : VK}, (∀ μ1 H1 v, Ext μ I H μ1 I1 H1 → Ok X.K X.mg μ1 I1 H1 → RV X.K μ1 I1 H1 d v → Q v H1) → tE X W f σ H Q := fun {Q} hq => ⟨μ, ρ, I, rr, ok, by rw [hf]; exact fun μ1 H1 e1 ok1 v rv => hq μ1 H1 v e1 ok1 rv⟩
      cases d with
      | tup xs =>
        cases hi
        refine .inr (.inl (mk fun μ1 H1 v e1 ok1 rv => ?_))
        obtain ⟨a, h1, h2, h3⟩ := it_tup ok1 rv
        exact ⟨a, h1, h2, fin μ1 H1 e1 ok1 _ h3⟩
      | str s =>
        cases hi
        refine .inr (.inr (mk fun μ1 H1 v e1 ok1 rv => ?_))
        cases rv
        refine ⟨_, rfl, fin μ1 H1 e1 ok1 _ fun μ' I' H' e' ok' _ i => ⟨fun d hd => ?_, fun hl => ?_⟩⟩
        · have hd' : (s.map fun c => D.str [c])[i]? = some d := hd
          rw [List.getElem?_map] at hd'
          cases hc : s[i]? with
          | none => rw [hc] at hd'; cases hd'
          | some c =>
            rw [hc] at hd'; cases hd'
            have hlt := (List.getElem?_eq_some_iff.mp hc).1
            refine ⟨by show i < (toS s).length; rw [toS_length]; exact hlt, fun x H'' ⟨e1, c', hc', e2⟩ => ?_⟩
            subst e1 e2
            refine ⟨fun _ _ z => z, ?_⟩
            have e3 : (toS s).cps[i]? = some c := by show s.toArray[i]? = some c; simpa using hc
            rw [e3] at hc'
            cases hc'
            rfl
        · show (toS s).length ≤ i
          rw [toS_length]
          have : (s.map fun c => D.str [c]).length ≤ i := hl
          rw [List.length_map] at this
          exact this
      | lst xs =>
        refine .inl (mk fun μ1 H1 v e1 ok1 rv => ?_)
        obtain ⟨a, h1, h2, h3⟩ := it_list ok1 rv hi (by simp) (by simp)
        exact ⟨a, h1, h2, fin μ1 H1 e1 ok1 _ h3⟩
      | scr xs =>
        refine .inl (mk fun μ1 H1 v e1 ok1 rv => ?_)
        obtain ⟨a, h1, h2, h3⟩ := it_list ok1 rv hi (by simp) (by simp)
        exact ⟨a, h1, h2, fin μ1 H1 e1 ok1 _ h3⟩
      | loc xs =>
        refine .inl (mk fun μ1 H1 v e1 ok1 rv => ?_)
        obtain ⟨a, h1, h2, h3⟩ := it_list ok1 rv hi (by simp) (by simp)
        exact ⟨a, h1, h2, fin μ1 H1 e1 ok1 _ h3⟩
      | _ => cases hi
  | err x I1 =>
    refine .inl ⟨μ, ρ, I, rr, ok, ?_⟩
    unfold seqI at p
    rw [hf] at p ⊢
    exact p
  | stuck =>
    unfold seqI at p
    rw [hf] at p
    exact p.elim
end

/-! ranges -/
def rangeL (lo hi : Int) : List D := (List.range (hi - lo).toNat).map fun (i : Nat) => D.int (lo + (i : Int))
def rng1I (f : EF) : IF := fun ρ I => (f ρ I).bind fun x I1 => match x with
  | .int j => if decide (-(2 ^ 62) ≤ j ∧ j < 2 ^ 62) then .ok ⟨rangeL 0 j, none⟩ I1 else .stuck
  | _ => .stuck
def rng2I (f g : EF) : IF := fun ρ I => (f ρ I).bind fun x I1 => (g ρ I1).bind fun y I2 => match x, y with
  | .int i, .int j => if decide (-(2 ^ 62) ≤ i ∧ i < 2 ^ 62 ∧ -(2 ^ 62) ≤ j ∧ j < 2 ^ 62) then .ok ⟨rangeL i j, none⟩ I2 else .stuck
  | _, _ => .stuck
section
variable {X : Cx} {W : WX}
theorem it_range {μ : List Addr} {I : MH} {H : Hp} (lo hi : Int) : ItSim X μ I H (L2.Itr lo (hi - lo).toNat) ⟨rangeL lo hi, none⟩ := by
  intro μ' I' H' e ok _ i
  refine ⟨fun d hd => ?_, fun hl => ?_⟩
  · have hd' : (rangeL lo hi)[i]? = some d := hd
    unfold rangeL at hd'
    rw [List.getElem?_map] at hd'
    cases hr : (List.range (hi - lo).toNat)[i]? with
    | none => rw [hr] at hd'; cases hd'
    | some k =>
      rw [hr] at hd'
      cases hd'
      obtain ⟨h1, h2⟩ := List.getElem?_eq_some_iff.mp hr
      rw [List.getElem_range] at h2
      subst h2
      rw [List.length_range] at h1
      refine ⟨h1, fun x H'' ⟨e1, e2⟩ => ?_⟩
      subst e1 e2
      exact ⟨fun _ _ z => z, rfl⟩
  · have : (rangeL lo hi).length ≤ i := hl
    unfold rangeL at this
    rw [List.length_map, List.length_range] at this
    exact this
theorem si_range1 {tg a : Expr} {f : EF} {p pos : Pos} (hg : Gl X "range") (hm : X.mg "range" = none) (hn : notStar a = true) (ha : SE X W a f) : SI X W tg (.Call (.Name "range" p) [a] [] pos) (rng1I f) := by
  refine pi_weak (pi_range1 hg hm (pa_cons ha pa_nil (star_cons hn)) (star_cons hn)) fun σ H R ⟨μ, ρ, I, rr, ok, p⟩ => ?_
  refine then_E rr ok p fun μ1 I1 H1 d v e1 rr1 ok1 rd p1 => ?_
  split at p1
  · split at p1
    · rename_i j hj
      have hj := of_decide_eq_true hj
      cases rd
      refine ⟨j, rfl, hj.1, hj.2, p1 μ1 H1 Ext.refl ok1 _ ?_⟩
      have := it_range (X := X) (μ := μ1) (I := I1) (H := H1) 0 j
      rw [Int.sub_zero] at this
      exact this
    · exact p1.elim
  · exact p1.elim
theorem si_range2 {tg a b : Expr} {f g : EF} {p pos : Pos} (hg : Gl X "range") (hm : X.mg "range" = none) (hn : notStar a = true) (hn2 : notStar b = true) (ha : SE X W a f) (hb : SE X W b g) : SI X W tg (.Call (.Name "range" p) [a, b] [] pos) (rng2I f g) := by
  have s2 : starEach [b] X.env = [(false, eval b X.env)] := star_cons hn2
  refine pi_weak (pi_range2 hg hm (pa_cons ha (pa_cons hb pa_nil s2) (star_cons hn)) ((star_cons hn).trans (by rw [s2])) s2) fun σ H R ⟨μ, ρ, I, rr, ok, p⟩ => ?_
  refine then_E rr ok p fun μ1 I1 H1 d v e1 rr1 ok1 rd p1 => ?_
  refine then_E rr1 ok1 p1 fun μ2 I2 H2 d2 v2 e2 rr2 ok2 rd2 p2 => ?_
  split at p2
  · split at p2
    · rename_i i j hj
      have hj := of_decide_eq_true hj
      cases rd
      cases rd2
      exact ⟨i, j, rfl, hj, p2 μ2 H2 Ext.refl ok2 _ (it_range i j)⟩
    · exact p2.elim
  · exact p2.elim
end

/-! ### for -/
noncomputable def forL (ip : Itr) (t : D → SF) (b : SF) : List D → SF
  | [] => fun ρ I => if watchOk ip I then .nx ρ I else .stuck
  | x :: xs => fun ρ I => if watchOk ip I then (match t x ρ I with
      | .nx ρ1 I1 => (match b ρ1 I1 with
        | .nx ρ2 I2 => forL ip t b xs ρ2 I2
        | .cnt ρ2 I2 => forL ip t b xs ρ2 I2
        | .brk ρ2 I2 => .nx ρ2 I2
        | r => r)
      | .err x I1 => .err x I1
      | _ => .stuck) else .stuck
noncomputable def forS (it : IF) (t : D → SF) (b : SF) : SF := fun ρ I => (it ρ I).bindS fun ip I1 => forL ip t b ip.items ρ I1
section
variable {X : Cx} {W : WX}
theorem ss_for {tg iter : Expr} {body : List Stmt} {it : IF} {t : D → SF} {f : SF} {pos : Pos} (hW : Flat W) (hp : PassesOwn (model X.prog X.w) X.A X.env X.xe) (hc : X.calm = true) (hi : SI X W tg iter it) (hg : SG X W tg t) (hb : SSs X W body f) (hs : notSet iter = true) :
    SS X W (.For tg iter body [] pos) (forS it t f) := by
  refine ps_weak (ps_for hp hc hi hg hb (noFold hs)) fun De σ H ⟨μ, ρ, I, rr, ok, p⟩ => ?_
  refine ⟨μ, ρ, I, rr, ok, (bindS_post hW p).imp (fun μ0 I0 H0 ip e0 ok0 q J sim => ?_) fun _ _ _ z => z⟩
  refine ⟨fun i m σ H => m = ip.items.length - i ∧ i ≤ ip.items.length ∧ ∃ μ ρ I, RepR X.K μ I H ρ σ ∧ Ok X.K X.mg μ I H ∧ Ext μ0 I0 H0 μ I H ∧ SPost X W De μ I H (forL ip t f (ip.items.drop i) ρ I),
    ⟨_, rfl, Nat.zero_le _, μ0, ρ, I0, rr.ext e0 ok, ok0, Ext.refl, q⟩, ?_⟩
  rintro i m σ H ⟨rfl, hi, μ, ρ, I, rr, ok, e, p⟩
  by_cases hlt : i < ip.items.length
  · refine .inr ?_
    rw [List.drop_eq_getElem_cons hlt] at p
    unfold forL at p
    split at p
    · rename_i hw
      have hd : ip.items[i]? = some ip.items[i] := List.getElem?_eq_getElem hlt
      obtain ⟨go, yl⟩ := (sim μ I H e ok hw i).1 _ hd
      refine ⟨go, fun σ' H' => ∃ μ ρ I, RepR X.K μ I H' ρ σ' ∧ Ok X.K X.mg μ I H' ∧ Ext μ0 I0 H0 μ I H' ∧ SPost X W De μ I H' (forL ip t f (ip.items.drop (i + 1)) ρ I),
        fun σ' H' h => ⟨ip.items.length - (i + 1), by omega, rfl, hlt, h⟩, fun x H' hy => ?_⟩
      obtain ⟨sm, rx⟩ := yl x H' hy
      have ex : Ext μ I H μ I H' := Ext.same sm
      have okx : Ok X.K X.mg μ I H' := ok.same sm
      refine ⟨μ, ρ, I, _, rr.ext ex ok, okx, rx, ?_⟩
      have p := SPost.ext ex p
      cases ht : t ip.items[i] ρ I with
      | nx ρ1 I1 =>
        rw [ht] at p
        intro μ1 σ1 H1 e1 ok1 rr1
        refine ⟨μ1, ρ1, I1, rr1, ok1, ?_⟩
        have p := SPost.ext e1 p
        have e01 := e.trans (ex.trans e1)
        dsimp only at p
        cases hb2 : f ρ1 I1 with
        | nx ρ2 I2 => rw [hb2] at p; exact fun μ2 σ2 H2 e2 ok2 rr2 => ⟨μ2, ρ2, I2, rr2, ok2, e01.trans e2, SPost.ext e2 p⟩
        | cnt ρ2 I2 => rw [hb2] at p; exact fun μ2 σ2 H2 e2 ok2 rr2 => ⟨μ2, ρ2, I2, rr2, ok2, e01.trans e2, SPost.ext e2 p⟩
        | brk ρ2 I2 => rw [hb2] at p; exact p
        | ret d I2 => rw [hb2] at p; exact p
        | err x I2 => rw [hb2] at p; exact p
        | stuck => rw [hb2] at p; exact p
      | err x I1 => rw [ht] at p; exact p
      | ret d I1 => rw [ht] at p; exact p.elim
      | brk ρ1 I1 => rw [ht] at p; exact p.elim
      | cnt ρ1 I1 => rw [ht] at p; exact p.elim
      | stuck => rw [ht] at p; exact p.elim
    · exact p.elim
  · refine .inl ?_
    have he : i = ip.items.length := by omega
    subst he
    rw [List.drop_length] at p
    unfold forL at p
    split at p
    · rename_i hw
      exact ⟨(sim μ I H e ok hw _).2 (Nat.le_refl _), p μ σ H Ext.refl ok rr⟩
    · exact p.elim

/-! ### in place -/
theorem ip_of {op : Operator} {g : D → D → MH → Res D} (h : OpR X (inplaceOp op) (rS2 X g)) : PIp X op (rS2 X g) := fun pins s σ H x y v u Q I r1 r2 q => h pins s σ H x y v u Q I r1 r2 q
theorem addI_ok : OpR X (inplaceOp .Add) (rS2 X fun x y I => match x, y with
    | .int i, .int j => .ok (.int (i + j)) I
    | .str a, .str b => if small (a.length + b.length) then .ok (.str (a ++ b)) I else .stuck
    | _, _ => .stuck) := by
  intro pins s σ H x y v u Q Iv rx ry ⟨μ, I, d, e, ok, rd, re, p⟩
  dsimp only at p
  split at p
  · cases rd; cases re
    exact iop_add pins s σ H _ _ v u Q Iv rx ry ⟨_, _, rfl, rfl, fin0 ok p rfl⟩
  · split at p
    · rename_i h
      cases rd; cases re
      refine iop_add_str pins s σ H _ _ v u Q Iv rx ry ⟨_, _, rfl, rfl, ?_, ?_⟩
      · rw [toS_length, toS_length]; exact of_decide_eq_true h
      · rw [toS_append]; exact fin0 ok p rfl
    · exact p.elim
  · exact p.elim
def addI (x y : D) (I : MH) : Res D :=
  match x, y with
  | .int i, .int j => .ok (.int (i + j)) I
  | .str a, .str b => if small (a.length + b.length) then .ok (.str (a ++ b)) I else .stuck
  | _, _ => .stuck
theorem ss_aug {x : Str} {i : Nat} {e : Expr} {f : EF} {pos pos' : Pos} (hW : Flat W) (hN : X.N.Nodup) (hi : X.N[i]? = some x) (hx : Loc X.env.scope x) (hf : X.fn x = true ∨ X.env.scope.names.lookup x = some .local) (he : SE X W e f)
    (hd : (x == ("__debug__" : Str)) = false) (hcd : (x == ("__classdict__" : Str)) = false) : SS X W (.AugAssign (.Name x pos') .Add e pos) (augS i addI f) := by
  refine ps_weak (ps_aug hN hi hx he (ip_of addI_ok) hf) fun De σ H ⟨μ, ρ, I, rr, ok, p⟩ => ?_
  unfold augS at p
  split at p
  · rename_i d hd'
    obtain ⟨v, h1, h2⟩ := rr.2 i d hd'
    refine ⟨v, h1, μ, ρ, I, rr, ok, (bindS_post hW p).imp (fun μ1 I1 H1 e' e1 ok1 q w rw' => ?_) fun _ _ _ z => z⟩
    have rr1 := rr.ext e1 ok
    refine ⟨μ1, I1, d, e', ok1, RepV.ext e1 ok _ _ h2, rw', ?_⟩
    have q2 := bindS_post (σ := σ) hW q
    exact RPost.calm (W := fun c dd H' => W c dd σ H') (q2.imp (fun μ2 I2 H2 z e2 ok2 q3 zv rz => q3 μ2 _ H2 Ext.refl ok2 ((rr1.ext e2 ok1).set rz i)) fun _ _ _ z => z)
  · exact p.elim
end
end MP
/-! MP7: methods of built-in types, new cells, isinstance -/
namespace MP
open PySem PySem.Spec L2

def rSm (X : Cx) (g : D → List D → MH → Res D) : V → List V → Hp → VK → Prop := fun x xs H Q => ∃ μ I d ds, Ok X.K X.mg μ I H ∧ RV X.K μ I H d x ∧ RVs X.K μ I H ds xs ∧ RPost X.K X.mg W0 μ I H (sE X Q) (g d ds I)
def isStr : D → MH → Bool
  | .str _, _ => true
  | _, _ => false
def isLst (d : D) (I : MH) : Bool := (lstOf I d).isSome
def methE (p : D → MH → Bool) (g : D → List D → MH → Res D) (f : EF) (fs : List EF) : EF := fun ρ I => (f ρ I).bind fun x I1 => if p x I1 then (seqA fs ρ I1).bind fun xs I2 => (g x xs I2).calm else .stuck
theorem two_rep {K : PySem.W.Frag} {L : Addr → Prop} {μ : List Addr} {H : Hp} {d e : D} {vs : List V} (r : RepVs K L μ H [d, e] vs) : ∃ v w, vs = [v, w] ∧ RepV K L μ H d v ∧ RepV K L μ H e w := by
  obtain ⟨v, t, rfl, h, h2⟩ := r
  obtain ⟨w, rfl, h3⟩ := one_rep h2
  exact ⟨v, w, rfl, h, h3⟩
section
variable {X : Cx} {W : WX}
theorem ty_str {μ : List Addr} {I : MH} {H : Hp} {d : D} {v : V} (ok : Ok X.K X.mg μ I H) (r : RV X.K μ I H d v) (h : isStr d I = true) : tyV X.K "str" v H := by
  cases d <;> first | (cases h; done) | (cases r; rfl)
theorem ty_lst {μ : List Addr} {I : MH} {H : Hp} {d : D} {v : V} (ok : Ok X.K X.mg μ I H) (r : RV X.K μ I H d v) (h : isLst d I = true) : tyV X.K "list" v H := by
  unfold isLst at h
  cases e : lstOf I d with
  | none => rw [e] at h; cases h
  | some xs =>
    obtain ⟨a, vs, rfl, q, _⟩ := lstOf_ok ok r e
    exact .inl ⟨rfl, vs, SqL.of q⟩
theorem se_mt {T id : String} {name : Str} {p : D → MH → Bool} {g : D → List D → MH → Res D} {o e : Expr} {es : List Expr} {f : EF} {fs : List EF} {apos cpos : Pos}
    (pa : PlainAttrs T) (slot : Slot T name id) (hty : typeOf (.builtin id) = pure (.type "method_descriptor")) (hm : MtR X id (rSm X g))
    (hp : ∀ μ I H d v, Ok X.K X.mg μ I H → RV X.K μ I H d v → p d I = true → tyV X.K T v H) (ho : SE X W o f) (ha : SA X W (e :: es) (seqA fs))
    (hb : baseOk o = true) (hn : (e :: es).all notStar = true) (hl : decide ((e :: es).length < 30) = true) (hline : (apos.endLine == cpos.line) = true) :
    SE X W (.Call (.Attribute o name apos) (e :: es) [] cpos) (methE p g f fs) := by
  have hn' := Bool.and_eq_true_iff.mp (by rw [List.all_cons] at hn; exact hn)
  refine pe_weak (pe_bm pa slot hty hm ho ha (base_ok hb) ?_ hline (star_cons hn'.1) (star_any hn'.2)) fun σ H Q ⟨μ, ρ, I, rr, ok, q⟩ => ?_
  · rw [star_all hn]
    exact hl
  · refine then_E rr ok q fun μ1 I1 H1 d v e1 rr1 ok1 rd p1 => ?_
    split at p1
    · rename_i hpd
      refine ⟨hp _ _ _ _ _ ok1 rd hpd, ?_⟩
      refine then_A rr1 ok1 p1 fun μ2 I2 H2 ds vs e2 rr2 ok2 rds p2 => ?_
      exact ⟨μ2, I2, d, ds, ok2, RepV.ext e2 ok1 _ _ rd, rds, p2.calm⟩
    · exact p1.elim
theorem find_ok : MtR X "str.find" (rSm X findD) := by
  intro pins s σ H x xs v us Q Iv rx rs ⟨μ, I, d, ds, ok, rd, rds, p⟩
  unfold findD at p
  split at p
  · cases rd
    obtain ⟨a, b, rfl, ra, rb⟩ := two_rep rds
    cases ra; cases rb
    exact mt_find3 pins s σ H _ _ v us Q Iv rx rs ⟨_, _, _, rfl, rfl, fin0 ok p rfl⟩
  · cases rd
    obtain ⟨a, rfl, ra⟩ := one_rep rds
    cases ra
    exact mt_find pins s σ H _ _ v us Q Iv rx rs ⟨_, _, rfl, rfl, fin0 ok p rfl⟩
  · exact p.elim
theorem endswith_ok : MtR X "str.endswith" (rSm X endswithD) := by
  intro pins s σ H x xs v us Q Iv rx rs ⟨μ, I, d, ds, ok, rd, rds, p⟩
  unfold endswithD at p
  split at p
  · cases rd
    obtain ⟨a, rfl, ra⟩ := one_rep rds
    cases ra
    exact mt_endswith pins s σ H _ _ v us Q Iv rx rs ⟨_, _, rfl, rfl, fin0 ok p rfl⟩
  · exact p.elim
theorem startswith_ok : MtR X "str.startswith" (rSm X startswithD) := by
  intro pins s σ H x xs v us Q Iv rx rs ⟨μ, I, d, ds, ok, rd, rds, p⟩
  unfold startswithD at p
  split at p
  · cases rd
    obtain ⟨a, rfl, ra⟩ := one_rep rds
    cases ra
    exact mt_startswith pins s σ H _ _ v us Q Iv rx rs ⟨_, _, rfl, rfl, fin0 ok p rfl⟩
  · exact p.elim
theorem strs_rep {K : PySem.W.Frag} {L : Addr → Prop} {μ : List Addr} {H : Hp} : ∀ {ds : List D} {vs : List V} {ss : List (List Nat)}, strsOf ds = some ss → RepVs K L μ H ds vs → vs = (ss.map toS).map V.str
  | [], _, _, h, r => by cases h; cases r; rfl
  | d :: ds, vs, ss, h, r => by
    obtain ⟨v, t, rfl, r1, r2⟩ := r
    cases d with
    | str s =>
      unfold strsOf at h
      cases e : strsOf ds with
      | none => rw [e] at h; cases h
      | some cs =>
        rw [e] at h; cases h
        cases r1
        rw [strs_rep e r2]
        rfl
    | _ => cases h
theorem map_tl : ∀ ss : List (List Nat), (ss.map toS).map TL.tl = ss
  | [] => rfl
  | s :: ss => by
    show TL.tl (toS s) :: (ss.map toS).map TL.tl = s :: ss
    rw [map_tl ss]
    rfl
theorem join_toS (s : List Nat) (ss : List (List Nat)) : Txt.join (toS s) (ss.map toS) = toS (TL.joinL s ss) := by
  apply TL.ext_tl
  rw [TL.join_eq, TL.tl_join, map_tl]
  rfl
theorem join_ok : MtR X "str.join" (rSm X joinD) := by
  intro pins s σ H x xs v us Q Iv rx rs ⟨μ, I, d, ds, ok, rd, rds, p⟩
  unfold joinD at p
  split at p
  · rename_i z y
    split at p
    · rename_i ss e1
      split at p
      · rename_i hz
        cases rd
        obtain ⟨a, rfl, ra⟩ := one_rep rds
        cases e2 : lstOf I y with
        | none => rw [e2] at e1; cases e1
        | some ys =>
          rw [e2] at e1
          obtain ⟨b, vs, rfl, q1, r1⟩ := lstOf_ok ok ra e2
          have e3 := strs_rep (ss := ss) e1 r1
          subst e3
          refine mt_join pins s σ H _ _ v us Q Iv rx rs ⟨_, b, ss.map toS, rfl, rfl, .inl (SqL.of q1), ?_, ?_⟩
          · rw [List.map_map, List.length_map, toS_length]
            have : (Str.length ∘ toS) = List.length := funext toS_length
            have h' := of_decide_eq_true hz
            show (ss.map (Str.length ∘ toS)).sum + ss.length * z.length ≤ 16777216
            rw [this, Nat.mul_comm]
            exact h'
          · rw [join_toS]
            exact fin0 ok p rfl
      · exact p.elim
    · exact p.elim
  · exact p.elim
theorem append_ok : MtR X "list.append" (rSm X appendD) := by
  intro pins s σ H x xs v us Q Iv rx rs ⟨μ, I, d, ds, ok, rd, rds, p⟩
  unfold appendD at p
  split at p
  · rename_i n d
    split at p
    · rename_i ys hy
      split at p
      · rename_i hz
        obtain ⟨a, rfl, ha⟩ := rd
        obtain ⟨w, rfl, rw'⟩ := one_rep rds
        obtain ⟨vs, hv, r1⟩ := ok.cell n _ a hy ha
        have st := ok.write (c' := .lst (ys ++ [d])) (o := .lst (vs ++ [w])) ha hy rfl rfl fun e => ⟨_, upd_same, RVs.append (RepVs.ext e ok _ _ r1) ⟨w, [], rfl, RepV.ext e ok _ _ rw', rfl⟩⟩
        refine mt_append pins s σ H _ _ v us Q Iv rx rs ⟨a, vs, w, rfl, rfl, hv, ?_, ?_⟩
        · rw [← RVs.length r1]; exact of_decide_eq_true hz
        · exact p μ _ st.1 st.2 _ rfl
      · exact p.elim
    · exact p.elim
  · exact p.elim
theorem extend_ok : MtR X "list.extend" (rSm X extendD) := by
  intro pins s σ H x xs v us Q Iv rx rs ⟨μ, I, d, ds, ok, rd, rds, p⟩
  unfold extendD at p
  split at p
  · rename_i n d
    split at p
    · rename_i ys zs hy hz'
      split at p
      · rename_i hz
        obtain ⟨a, rfl, ha⟩ := rd
        obtain ⟨w, rfl, rw'⟩ := one_rep rds
        obtain ⟨vs, hv, r1⟩ := ok.cell n _ a hy ha
        obtain ⟨b, ws, rfl, q2, r2⟩ := lstOf_ok ok rw' hz'
        have st := ok.write (c' := .lst (ys ++ zs)) (o := .lst (vs ++ ws)) ha hy rfl rfl fun e => ⟨_, upd_same, RVs.append (RepVs.ext e ok _ _ r1) (RepVs.ext e ok _ _ r2)⟩
        refine mt_extend pins s σ H _ _ v us Q Iv rx rs ⟨a, b, vs, ws, rfl, rfl, hv, q2, ?_, ?_⟩
        · rw [← RVs.length r1, ← RVs.length r2]; exact of_decide_eq_true hz
        · exact p μ _ st.1 st.2 _ rfl
      · exact p.elim
    · exact p.elim
  · exact p.elim

/-! ### a new cell -/
def lstM (fs : List EF) : EF := fun ρ I => (seqA fs ρ I).bind fun xs I1 => if small xs.length then .ok (.loc I1.length) (I1 ++ [.lst xs]) else .stuck
theorem se_lstM {es : List Expr} {fs : List EF} {pos : Pos} (h : SA X W es (seqA fs)) : SE X W (.List es pos) (lstM fs) := by
  refine pe_weak (pe_lst h) fun σ H Q ⟨μ, ρ, I, rr, ok, p⟩ => ?_
  refine then_A rr ok p fun μ1 I1 H1 ds vs e1 rr1 ok1 rd p1 => ?_
  split at p1
  · rename_i hz
    refine ⟨by rw [← RVs.length rd]; exact of_decide_eq_true hz, fun q hq => ?_⟩
    have st := ok1.alloc (c := .lst ds) (H' := upd H1 q (.lst vs)) hq (same_upd hq) fun e => ⟨vs, upd_same, RepVs.ext e ok1 _ _ rd⟩
    refine p1 _ _ st.1 st.2 _ ⟨q, rfl, ?_⟩
    rw [← ok1.len]
    simp
  · exact p1.elim

/-! ### isinstance of a built-in class -/
def tyName (I : MH) : D → Option String
  | .non => some "NoneType"
  | .bl _ => some "bool"
  | .int _ => some "int"
  | .str _ => some "str"
  | .tup _ => some "tuple"
  | .lst _ => some "list"
  | .scr _ => some "list"
  | .loc n => match I[n]? with
    | some (.lst _) => some "list"
    | _ => none
def isiT (t T : String) : Bool := t == T || (t == "bool" && T == "int")
def isiD (T : String) (d : D) (I : MH) : Res D := match tyName I d with
  | some t => .ok (.bl (isiT t T)) I
  | none => .stuck
def kinds : List String := ["NoneType", "bool", "int", "str", "tuple", "list"]
def asked : List String := ["bool", "int", "str", "tuple", "list", "dict"]
theorem kit_all : (kinds.all fun t => asked.all fun T => kitB t T == some (isiT t T)) = true := by decide +kernel
theorem kit_of' {K : PySem.W.Frag} {t T : String} (ht : t ∈ kinds) (hT : T ∈ asked) : PySem.W.kitOne K (.type t) (.type T) = some (isiT t T) := by
  have h := List.all_eq_true.mp (List.all_eq_true.mp kit_all t ht) T hT
  exact kit_ty (eq_of_beq h)
theorem ty_rep {μ : List Addr} {I : MH} {H : Hp} {d : D} {v : V} {t : String} (ok : Ok X.K X.mg μ I H) (r : RV X.K μ I H d v) (h : tyName I d = some t) : t ∈ kinds ∧ TyX X.K H v (.type t) := by
  cases d with
  | non => cases h; cases r; exact ⟨by decide, .base .non⟩
  | bl b => cases h; cases r; exact ⟨by decide, .base (.bl b)⟩
  | int i => cases h; cases r; exact ⟨by decide, .base (.int i)⟩
  | str s => cases h; cases r; exact ⟨by decide, .base (.str _)⟩
  | tup xs =>
    cases h
    obtain ⟨a, vs, rfl, q, _⟩ := r
    refine ⟨by decide, ?_⟩
    rcases q with (q | ⟨o, q⟩) | ⟨o, its, n, q, c, _⟩
    · exact .base (.tup q)
    · exact .fTuple q
    · exact .kTuple q c
  | lst xs =>
    cases h
    obtain ⟨a, vs, rfl, q, _⟩ := r
    exact ⟨by decide, .base (.lst q)⟩
  | scr ns =>
    cases h
    obtain ⟨a, rfl, q⟩ := r
    refine ⟨by decide, ?_⟩
    rcases q with ⟨o, q⟩ | ⟨o, its, n, q, c, _⟩
    · exact .base (.frz q)
    · exact .kList q c
  | loc n =>
    unfold tyName at h
    dsimp only at h
    split at h
    · rename_i xs e
      cases h
      obtain ⟨a, rfl, ha⟩ := r
      obtain ⟨vs, q, _⟩ := ok.cell n _ a e ha
      exact ⟨by decide, .base (.lst q)⟩
    · cases h
theorem se_isi {T : String} {a : Expr} {f : EF} {p p2 pos : Pos} (hg : Gl X "isinstance") (hm : X.mg "isinstance" = none) (hgT : Gl X (Str.ofString T)) (hmT : X.mg (Str.ofString T) = none) (hv : bootBuiltins (Str.ofString T) = some (.type T)) (hT : T ∈ asked)
    (hn1 : Str.ofString T ≠ "__name__") (hdb : (Str.ofString T == ("__debug__" : Str)) = false) (hn : notStar a = true) (ha : SE X W a f) : SE X W (.Call (.Name "isinstance" p) [a, .Name (Str.ofString T) p2] [] pos) (un1 (isiD T) f) := by
  have hT2 : PE X (.Name (Str.ofString T) p2) (tC (.ty T)) := pe_bltn hgT hmT hv rfl hn1 hdb
  have hA := pa_cons ha (pa_cons hT2 pa_nil) (star_cons hn)
  refine pe_weak (pe_callB call_isi hg hm (by decide +kernel) hA (by decide) (by decide) (star_cons hn) rfl) fun σ H Q ⟨μ, ρ, I, rr, ok, q⟩ => ?_
  refine then_E rr ok q fun μ1 I1 H1 d v e1 rr1 ok1 rd p1 => ?_
  unfold isiD at p1
  split at p1
  · rename_i t ht
    obtain ⟨h1, h2⟩ := ty_rep ok1 rd ht
    exact ⟨v, .ty T, .type t, .type T, _, rfl, .ty T, h2, kit_of' h1 hT, fin0 ok1 p1 rfl⟩
  · exact p1.elim
end
end MP
/-! MP8: list comprehensions; what a call leaves behind -/
namespace MP
open PySem PySem.Spec L2

open Classical in
noncomputable def trim (I : MH) (d : D) (I' : MH) : MH := if d.under I.length = true ∧ Tidy I.length I I' then I'.take I.length else I'
theorem trim_ok {K : PySem.W.Frag} {mg : Str → Option Value} {μ μ' : List Addr} {I I' : MH} {H H' : Hp} {d : D} {v : V} (ok : Ok K mg μ I H) (ok' : Ok K mg μ' I' H') (e : Ext μ I H μ' I' H') (r : RV K μ' I' H' d v) :
    ∃ μ'', Ext μ I H μ'' (trim I d I') H' ∧ Ok K mg μ'' (trim I d I') H' ∧ RV K μ'' (trim I d I') H' d v := by
  unfold trim
  split
  · rename_i h
    have c := ok.cut ok' e h.2
    exact ⟨μ'.take I.length, c.1, c.2, RepV.cut d v h.1 r⟩
  · exact ⟨μ', e, ok', r⟩
/-- a fresh list that is handed back becomes data; then the rest is forgotten -/
noncomputable def fin (I : MH) (d : D) (I' : MH) : Res D :=
  match d with
  | .loc n => if I.length ≤ n then (match I'[n]? with
      | some (.lst xs) => .ok (.lst xs) (trim I (.lst xs) (I'.set n .dead))
      | _ => .ok d (trim I d I')) else .ok d (trim I d I')
  | .tup [.str a, .loc n] => if I.length ≤ n then (match I'[n]? with
      | some (.lst xs) => .ok (.tup [.str a, .lst xs]) (trim I (.tup [.str a, .lst xs]) (I'.set n .dead))
      | _ => .ok d (trim I d I')) else .ok d (trim I d I')
  | _ => .ok d (trim I d I')
theorem fin_ok {K : PySem.W.Frag} {mg : Str → Option Value} {μ μ' : List Addr} {I I' : MH} {H H' : Hp} {d : D} {v : V} (ok : Ok K mg μ I H) (ok' : Ok K mg μ' I' H') (e : Ext μ I H μ' I' H') (r : RV K μ' I' H' d v) :
    ∃ d' I'' μ'', fin I d I' = .ok d' I'' ∧ Ext μ I H μ'' I'' H' ∧ Ok K mg μ'' I'' H' ∧ RV K μ'' I'' H' d' v := by
  have plain : ∃ d' I'' μ'', (Res.ok d (trim I d I') : Res D) = .ok d' I'' ∧ Ext μ I H μ'' I'' H' ∧ Ok K mg μ'' I'' H' ∧ RV K μ'' I'' H' d' v := by
    obtain ⟨μ'', h1, h2, h3⟩ := trim_ok ok ok' e r
    exact ⟨d, _, μ'', rfl, h1, h2, h3⟩
  unfold fin
  split
  · rename_i n
    split
    · split
      · rename_i xs hx
        obtain ⟨a, rfl, ha⟩ := r
        obtain ⟨e2, ok2, r2⟩ := ok'.freeze ha hx
        obtain ⟨μ'', h1, h2, h3⟩ := trim_ok ok ok2 (e.trans e2) r2
        exact ⟨_, _, μ'', rfl, h1, h2, h3⟩
      · exact plain
    · exact plain
  · rename_i s n
    split
    · split
      · rename_i xs hx
        obtain ⟨a, vs, rfl, q, r1⟩ := id r
        obtain ⟨v1, v2, rfl, g1, g2⟩ := two_rep r1
        obtain ⟨b, rfl, hb⟩ := g2
        obtain ⟨e2, ok2, r2⟩ := ok'.freeze hb hx
        have r3 : RV K μ' (I'.set n .dead) H' (.tup [.str s, .lst xs]) (.ref a) := ⟨a, _, rfl, e2.sqt ok' q, v1, [.ref b], rfl, RepV.ext e2 ok' _ _ g1, .ref b, [], rfl, r2, rfl⟩
        obtain ⟨μ'', h1, h2, h3⟩ := trim_ok ok ok2 (e.trans e2) r3
        exact ⟨_, _, μ'', rfl, h1, h2, h3⟩
      · exact plain
    · exact plain
  · exact plain

/-! ### [e for t in it if c] -/
def wipeR (ρ : En) : List Nat → En
  | [] => ρ
  | v :: vs => (wipeR ρ vs).set v none
theorem RepR.wipe {K : PySem.W.Frag} {μ : List Addr} {I : MH} {H : Hp} {ρ : En} {σ : L2.St} (r : RepR K μ I H ρ σ) : ∀ vs : List Nat, RepR K μ I H (wipeR ρ vs) (wipe σ vs)
  | [] => r
  | v :: vs => by
    have ih := RepR.wipe r vs
    refine ⟨by show ((wipeR ρ vs).set v none).length = ((L2.wipe σ vs).set v none).length; rw [List.length_set, List.length_set]; exact ih.1, fun j d h => ?_⟩
    have h' : ((wipeR ρ vs).set v none)[j]? = some (some d) := h
    show ∃ w, ((L2.wipe σ vs).set v none)[j]? = some (some w) ∧ _
    by_cases hj : v = j
    · subst hj
      obtain ⟨hlt, _⟩ := List.getElem?_eq_some_iff.mp h'
      rw [List.length_set] at hlt
      rw [List.getElem?_set_self hlt] at h'
      cases h'
    · rw [List.getElem?_set_ne hj] at h' ⊢
      exact ih.2 j d h'
abbrev CTF := D → En → Option En
def GOK (X : Cx) (g : TG) (t : CTF) (own : List Nat) : Prop := ∀ μ ρ I d v σ H ρ', RepR X.K μ I H ρ σ → Ok X.K X.mg μ I H → RV X.K μ I H d v → t d ρ = some ρ' → ∀ Q : L2.St → Hp → Prop, (∀ σ', RepR X.K μ I H ρ' σ' → wipe σ' own = wipe σ own → Q σ' H) → g v σ H Q
def ctName (i : Nat) : CTF := fun d ρ => some (ρ.set i (some d))
theorem wipe_set {σ : L2.St} {i : Nat} {x : Option V} : ∀ {vs : List Nat}, i ∈ vs → wipe (σ.set i x) vs = wipe σ vs
  | [], h => by cases h
  | v :: vs, h => by
    show (wipe (σ.set i x) vs).set v none = (wipe σ vs).set v none
    by_cases hm : i ∈ vs
    · rw [wipe_set hm]
    · have hv : i = v := by
        rcases List.mem_cons.mp h with z | z
        · exact z
        · exact absurd z hm
      subst hv
      have key : ∀ (ws : List Nat), i ∉ ws → wipe (σ.set i x) ws = (wipe σ ws).set i x := by
        intro ws
        induction ws with
        | nil => intro _; rfl
        | cons w ws ih =>
          intro hn
          have h1 : i ≠ w := fun z => hn (by rw [z]; exact List.mem_cons_self)
          have h2 : i ∉ ws := fun z => hn (List.mem_cons_of_mem _ z)
          show (wipe (σ.set i x) ws).set w none = ((wipe σ ws).set w none).set i x
          rw [ih h2, List.set_comm _ _ h1]
      rw [key vs hm, List.set_set]
theorem gok_name {X : Cx} {i : Nat} {own : List Nat} (h : i ∈ own) : GOK X (gName i) (ctName i) own := by
  intro μ ρ I d v σ H ρ' rr ok rd ht Q hQ
  cases ht
  exact hQ _ (rr.set rd i) (wipe_set h)
def namesO : List Nat → List D → En → Option En
  | [], [], ρ => some ρ
  | i :: is, d :: ds, ρ => namesO is ds (ρ.set i (some d))
  | _, _, _ => none
def ctTup (is : List Nat) : CTF := fun d ρ => match d with
  | .tup ds => namesO is ds ρ
  | _ => none
def gNames : List Nat → TGs
  | [] => gNil
  | i :: is => gCons (gName i) (gNames is)
theorem gok_names {X : Cx} {own : List Nat} : ∀ {is : List Nat}, (∀ i ∈ is, i ∈ own) → ∀ {μ ρ I ds vs σ H ρ'}, RepR X.K μ I H ρ σ → Ok X.K X.mg μ I H → RVs X.K μ I H ds vs → namesO is ds ρ = some ρ' → is.length = vs.length ∧ ∀ Q : L2.St → Hp → Prop, (∀ σ', RepR X.K μ I H ρ' σ' → wipe σ' own = wipe σ own → Q σ' H) → gNames is vs σ H Q
  | [], _, μ, ρ, I, ds, vs, σ, H, ρ', rr, ok, rd, h => by
    cases ds with
    | nil => cases h; cases rd; exact ⟨rfl, fun Q hQ => ⟨rfl, hQ _ rr rfl⟩⟩
    | cons d ds => cases h
  | i :: is, hi, μ, ρ, I, ds, vs, σ, H, ρ', rr, ok, rd, h => by
    cases ds with
    | nil => cases h
    | cons d ds =>
      obtain ⟨v, r, rfl, r1, r2⟩ := rd
      obtain ⟨hl, hq⟩ := gok_names (is := is) (fun j hj => hi j (List.mem_cons_of_mem _ hj)) (rr.set r1 i) ok r2 h
      refine ⟨by simp [hl], fun Q hQ => ⟨v, r, rfl, hq _ fun σ' rr' hw => hQ σ' rr' ?_⟩⟩
      rw [hw, wipe_set (hi i List.mem_cons_self)]
theorem gok_tup {X : Cx} {is own : List Nat} (h : ∀ i ∈ is, i ∈ own) : GOK X (gTup X.K is.length (gNames is)) (ctTup is) own := by
  intro μ ρ I d v σ H ρ' rr ok rd ht Q hQ
  unfold ctTup at ht
  split at ht
  · obtain ⟨a, vs, rfl, q, r1⟩ := rd
    obtain ⟨hl, hq⟩ := gok_names (X := X) h rr ok r1 ht
    exact ⟨a, vs, rfl, q, hl.symm, hq _ hQ⟩
  · cases ht

noncomputable def lcL (ip : Itr) (n : Nat) (ρ0 : En) (t : CTF) (tt : TF) (te : EF) : List D → MH → Res Unit
  | [], I => if watchOk ip I then .ok () I else .stuck
  | x :: xs, I => if watchOk ip I then (match t x ρ0 with
      | none => .stuck
      | some ρ1 => (tt ρ1 I).calm.bind fun b I1 => if b then (te ρ1 I1).calm.bind fun y I2 => (match I2[n]? with
          | some (.lst acc) => if decide (acc.length < sizeLine) then lcL ip n ρ0 t tt te xs (I2.set n (.lst (acc ++ [y]))) else .stuck
          | _ => .stuck) else lcL ip n ρ0 t tt te xs I1) else .stuck
noncomputable def lcE (it : IF) (own : List Nat) (t : CTF) (tt : TF) (te : EF) : EF := fun ρ I =>
  (it ρ I).bind fun ip I1 => (lcL ip I1.length (wipeR ρ own) t tt te ip.items (I1 ++ [.lst []])).bind fun _ I2 => fin I1 (.loc I1.length) I2
/-- as a cell that stays -/
noncomputable def lcM (it : IF) (own : List Nat) (t : CTF) (tt : TF) (te : EF) : EF := fun ρ I =>
  (it ρ I).bind fun ip I1 => (lcL ip I1.length (wipeR ρ own) t tt te ip.items (I1 ++ [.lst []])).bind fun _ I2 => .ok (.loc I1.length) I2
def yesT : TF := fun _ I => .ok true I
section
variable {X : Cx} {W : WX}
/-- the loop: its reading by the layer from the reading by trees -/
theorem lc_loop {σ : L2.St} {ρ0 : En} {g : TG} {t : CTF} {tt : TT} {tte : TE} {ttf : TF} {te : EF} {own : List Nat} {ip : Itr} {μ1 : List Addr} {I1 : MH} {H1 : Hp} {J : It} {Q : VK} {S : List Addr → MH → Hp → Unit → Prop}
    (sim : ItSim X μ1 I1 H1 J ip) (rr1 : RepR X.K μ1 I1 H1 ρ0 (wipe σ own)) (ok1 : Ok X.K X.mg μ1 I1 H1) (hg : GOK X g t own)
    (htt : ∀ σ H Q, tT X (fun _ _ _ _ => False) ttf σ H Q → tt σ H Q) (hte : ∀ σ H Q, tE X (fun _ _ _ _ => False) te σ H Q → tte σ H Q)
    {W' : Value → Option Addr → Hp → Prop} (p : RPost X.K X.mg W' μ1 I1 H1 S (lcL ip I1.length ρ0 t ttf te ip.items (I1 ++ [.lst []])))
    (hQ : ∀ D, H1 D = none → ∀ μ I H, Ext μ1 I1 H1 μ I H → Ok X.K X.mg μ I H → μ[I1.length]? = some D → S μ I H () → Q (.ref D) H) :
    ∀ D, H1 D = none → ∃ Wv : Nat → Nat → Hp → Prop, (∃ m, Wv 0 m (upd H1 D (.lst []))) ∧ ∀ i m H, Wv i m H →
      (J.stop i H ∧ Q (.ref D) H) ∨ (J.go i H ∧ ∃ Nx : Hp → Prop, (∀ H', Nx H' → ∃ m', m' < m ∧ Wv (i + 1) m' H') ∧ ∀ x H', J.yld i H x H' → g x (wipe σ own) H' fun σ2 H2 => wipe σ2 own = wipe σ own ∧ tt σ2 H2 fun b H3 =>
        if b = true then tte σ2 H3 fun y H4 => ∃ acc, H4 D = some (.lst acc) ∧ acc.length < sizeLine ∧ Nx (upd H4 D (.lst (acc ++ [y]))) else Nx H3) := by
  intro D hD
  have hl1 := ok1.len
  have st := ok1.alloc (c := .lst []) (H' := upd H1 D (.lst [])) hD (same_upd hD) fun e => ⟨[], upd_same, rfl⟩
  let n := I1.length
  have hn0 : (μ1 ++ [D])[n]? = some D := by show (μ1 ++ [D])[I1.length]? = _; rw [← hl1]; simp
  refine ⟨fun i m H => m = ip.items.length - i ∧ i ≤ ip.items.length ∧ ∃ μ I, Ok X.K X.mg μ I H ∧ Ext μ1 I1 H1 μ I H ∧ μ[n]? = some D ∧ RPost X.K X.mg W' μ I H S (lcL ip n ρ0 t ttf te (ip.items.drop i) I),
    ⟨_, rfl, Nat.zero_le _, _, _, st.2, st.1, hn0, RPost.ext st.1 p⟩, ?_⟩
  rintro i m H ⟨rfl, hi, μ, I, ok, e, hn, p⟩
  by_cases hlt : i < ip.items.length
  · refine .inr ?_
    rw [List.drop_eq_getElem_cons hlt] at p
    unfold lcL at p
    split at p
    · rename_i hw
      have hd : ip.items[i]? = some ip.items[i] := List.getElem?_eq_getElem hlt
      obtain ⟨go, yl⟩ := (sim μ I H e ok hw i).1 _ hd
      refine ⟨go, fun H' => ∃ μ I, Ok X.K X.mg μ I H' ∧ Ext μ1 I1 H1 μ I H' ∧ μ[n]? = some D ∧ RPost X.K X.mg W' μ I H' S (lcL ip n ρ0 t ttf te (ip.items.drop (i + 1)) I),
        fun H' h => ⟨ip.items.length - (i + 1), by omega, rfl, hlt, h⟩, fun x H' hy => ?_⟩
      obtain ⟨sm, rx⟩ := yl x H' hy
      have ex : Ext μ I H μ I H' := Ext.same sm
      have okx : Ok X.K X.mg μ I H' := ok.same sm
      have rrx : RepR X.K μ I H' ρ0 (wipe σ own) := (rr1.ext e ok1).ext ex ok
      split at p
      · exact p.elim
      · rename_i ρ1 ht
        refine hg μ ρ0 I _ x _ H' ρ1 rrx okx rx ht _ fun σ2 rr2 hw2 => ⟨?_, htt _ _ _ ⟨μ, ρ1, I, rr2, okx, ?_⟩⟩
        · rw [hw2]
          have : ∀ vs : List Nat, wipe (wipe σ vs) vs = wipe σ vs := by
            intro vs
            have gen : ∀ (ws vs : List Nat), (∀ w ∈ ws, w ∈ vs) → wipe (wipe σ ws) vs = wipe σ vs := by
              intro ws
              induction ws with
              | nil => intro vs _; rfl
              | cons w ws ih =>
                intro vs hs
                show wipe ((wipe σ ws).set w none) vs = wipe σ vs
                rw [wipe_set (hs w List.mem_cons_self)]
                exact ih vs fun z hz => hs z (List.mem_cons_of_mem _ hz)
            exact gen vs vs fun _ h => h
          exact this own
        · have p1 := RPost.ext ex p
          have p2 := RPost.bind p1
          cases hb : ttf ρ1 I with
          | err z I2 => rw [hb] at p2; exact p2.elim
          | stuck => rw [hb] at p2; exact p2.elim
          | ok b I2 =>
            rw [hb] at p2
            intro μ2 H2 e2 ok2
            have p3 := p2 μ2 H2 e2 ok2
            cases b with
            | false => exact iteF ⟨μ2, I2, ok2, e.trans (ex.trans e2), e2.pre _ _ hn, p3⟩
            | true =>
              refine iteT (hte _ _ _ ⟨μ2, ρ1, I2, rr2.ext e2 okx, ok2, ?_⟩)
              have p4 : RPost X.K X.mg W' μ2 I2 H2 S ((te ρ1 I2).calm.bind fun y I3 => (match I3[n]? with
                | some (.lst acc) => if decide (acc.length < sizeLine) then lcL ip n ρ0 t ttf te (ip.items.drop (i + 1)) (I3.set n (.lst (acc ++ [y]))) else .stuck
                | _ => .stuck)) := p3
              have p5 := RPost.bind p4
              cases hy2 : te ρ1 I2 with
              | err z I3 => rw [hy2] at p5; exact p5.elim
              | stuck => rw [hy2] at p5; exact p5.elim
              | ok y I3 =>
                rw [hy2] at p5
                intro μ3 H3 e3 ok3 v rv
                have p6 := p5 μ3 H3 e3 ok3
                have hn3 := e3.pre _ _ (e2.pre _ _ hn)
                dsimp only at p6
                split at p6
                · rename_i acc hacc
                  split at p6
                  · rename_i hz
                    obtain ⟨ws, hws, rws⟩ := ok3.cell n _ D hacc hn3
                    have st3 := ok3.write (c' := .lst (acc ++ [y])) (o := .lst (ws ++ [v])) hn3 hacc rfl rfl fun e' => ⟨_, upd_same, RVs.append (RepVs.ext e' ok3 _ _ rws) ⟨v, [], rfl, RepV.ext e' ok3 _ _ rv, rfl⟩⟩
                    refine ⟨ws, hws, ?_, μ3, _, st3.2, e.trans (ex.trans (e2.trans (e3.trans st3.1))), hn3, RPost.ext st3.1 p6⟩
                    rw [← RVs.length rws]
                    exact of_decide_eq_true hz
                  · exact p6.elim
                · exact p6.elim
    · exact p.elim
  · refine .inl ?_
    have he : i = ip.items.length := by omega
    subst he
    rw [List.drop_length] at p
    unfold lcL at p
    split at p
    · rename_i hw
      exact ⟨(sim μ I H e ok hw _).2 (Nat.le_refl _), hQ D hD μ I H e ok hn (p μ H Ext.refl ok)⟩
    · exact p.elim
/-- the reading of a comprehension -/
theorem lc_read {it : IF} {g : TG} {t : CTF} {tt : TT} {tte : TE} {ttf : TF} {te : EF} {own : List Nat} (hg : GOK X g t own)
    (htt : ∀ σ H Q, tT X (fun _ _ _ _ => False) ttf σ H Q → tt σ H Q) (hte : ∀ σ H Q, tE X (fun _ _ _ _ => False) te σ H Q → tte σ H Q) (σ : L2.St) (H : Hp) (Q : VK) (h : tE X W (lcE it own t ttf te) σ H Q) :
    tLc (tI X W it) g tt tte own σ H Q := by
  obtain ⟨μ, ρ, I, rr, ok, p⟩ := h
  refine ⟨μ, ρ, I, rr, ok, (RPost.bind p).imp (fun μ1 I1 H1 ip e1 ok1 q J sim => ?_) fun _ _ _ z => z⟩
  have rr1 := (rr.ext e1 ok).wipe own
  cases hr : lcL ip I1.length (wipeR ρ own) t ttf te ip.items (I1 ++ [.lst []]) with
  | ok u I2 =>
    rw [hr] at q
    refine lc_loop (W' := W0) (S := fun μ' I' H' _ => I' = I2) sim rr1 ok1 hg htt hte (by rw [hr]; exact fun _ _ _ _ => rfl) fun D hD μ2 I2' H2 e2 ok2 hn p2 => ?_
    subst p2
    obtain ⟨d', I3, μ3, hf, e3, ok3, r3⟩ := fin_ok ok1 ok2 e2 (d := .loc I1.length) (v := .ref D) ⟨D, rfl, hn⟩
    have q' : RPost X.K X.mg (fun c dd H' => W c dd σ H') μ1 I1 H1 (sE X Q) (fin I1 (.loc I1.length) I2') := q
    rw [hf] at q'
    exact q' μ3 H2 e3 ok3 _ r3
  | err z I2 => exact lc_loop (W' := fun _ _ _ => True) (S := fun _ _ _ _ => False) sim rr1 ok1 hg htt hte (by rw [hr]; exact fun _ _ _ _ _ _ _ => trivial) fun D hD μ2 I2' H2 e2 ok2 hn p2 => p2.elim
  | stuck => rw [hr] at q; exact q.elim
theorem lc_readM {it : IF} {g : TG} {t : CTF} {tt : TT} {tte : TE} {ttf : TF} {te : EF} {own : List Nat} (hg : GOK X g t own)
    (htt : ∀ σ H Q, tT X (fun _ _ _ _ => False) ttf σ H Q → tt σ H Q) (hte : ∀ σ H Q, tE X (fun _ _ _ _ => False) te σ H Q → tte σ H Q) (σ : L2.St) (H : Hp) (Q : VK) (h : tE X W (lcM it own t ttf te) σ H Q) :
    tLc (tI X W it) g tt tte own σ H Q := by
  obtain ⟨μ, ρ, I, rr, ok, p⟩ := h
  refine ⟨μ, ρ, I, rr, ok, (RPost.bind p).imp (fun μ1 I1 H1 ip e1 ok1 q J sim => ?_) fun _ _ _ z => z⟩
  have rr1 := (rr.ext e1 ok).wipe own
  cases hr : lcL ip I1.length (wipeR ρ own) t ttf te ip.items (I1 ++ [.lst []]) with
  | ok u I2 =>
    rw [hr] at q
    refine lc_loop (W' := W0) (S := fun μ' I' H' _ => I' = I2) sim rr1 ok1 hg htt hte (by rw [hr]; exact fun _ _ _ _ => rfl) fun D hD μ2 I2' H2 e2 ok2 hn p2 => ?_
    subst p2
    exact q μ2 H2 e2 ok2 _ ⟨D, rfl, hn⟩
  | err z I2 => exact lc_loop (W' := fun _ _ _ => True) (S := fun _ _ _ _ => False) sim rr1 ok1 hg htt hte (by rw [hr]; exact fun _ _ _ _ _ _ _ => trivial) fun D hD μ2 I2' H2 e2 ok2 hn p2 => p2.elim
  | stuck => rw [hr] at q; exact q.elim
/-- the block's own context -/
theorem se_lc {elt tg iter : Expr} {ifs : List Expr} {scope : Scope} {own : List (Str × Nat)} {pos : Pos} {it : IF} {g : TG} {t : CTF} {ttf : TF} {te : EF} (hc : X.calm = true) (hN : X.N.Nodup) (hi : SI X W tg iter it) (okb : BlkOk X.N X.env.scope scope own) (hgo : GOK X g t (own.map (·.2)))
    (hg : ∀ (s : Shared) (H : Hp) (C : Addr) (cl : List (Str × Addr)) (fp : List Addr), PG (X.blk s H scope (compEnvC scope cl C X.env) fp) tg g)
    (ht : ∀ (s : Shared) (H : Hp) (C : Addr) (cl : List (Str × Addr)) (fp : List Addr), PTs (X.blk s H scope (compEnvC scope cl C X.env) fp) ifs (tT X (fun _ _ _ _ => False) ttf))
    (he : ∀ (s : Shared) (H : Hp) (C : Addr) (cl : List (Str × Addr)) (fp : List Addr), PE (X.blk s H scope (compEnvC scope cl C X.env) fp) elt (tE X (fun _ _ _ _ => False) te)) (hs : notSet iter = true) :
    SE X W (.ListComp elt [⟨tg, iter, ifs, 0⟩] scope pos) (lcE it (own.map (·.2)) t ttf te) :=
  pe_weak (pe_lc hc hN hi okb hg ht he (noFold hs)) fun σ H Q h => lc_read hgo (fun _ _ _ z => z) (fun _ _ _ z => z) σ H Q h
theorem se_lcM {elt tg iter : Expr} {ifs : List Expr} {scope : Scope} {own : List (Str × Nat)} {pos : Pos} {it : IF} {g : TG} {t : CTF} {ttf : TF} {te : EF} (hc : X.calm = true) (hN : X.N.Nodup) (hi : SI X W tg iter it) (okb : BlkOk X.N X.env.scope scope own) (hgo : GOK X g t (own.map (·.2)))
    (hg : ∀ (s : Shared) (H : Hp) (C : Addr) (cl : List (Str × Addr)) (fp : List Addr), PG (X.blk s H scope (compEnvC scope cl C X.env) fp) tg g)
    (ht : ∀ (s : Shared) (H : Hp) (C : Addr) (cl : List (Str × Addr)) (fp : List Addr), PTs (X.blk s H scope (compEnvC scope cl C X.env) fp) ifs (tT X (fun _ _ _ _ => False) ttf))
    (he : ∀ (s : Shared) (H : Hp) (C : Addr) (cl : List (Str × Addr)) (fp : List Addr), PE (X.blk s H scope (compEnvC scope cl C X.env) fp) elt (tE X (fun _ _ _ _ => False) te)) (hs : notSet iter = true) :
    SE X W (.ListComp elt [⟨tg, iter, ifs, 0⟩] scope pos) (lcM it (own.map (·.2)) t ttf te) :=
  pe_weak (pe_lc hc hN hi okb hg ht he (noFold hs)) fun σ H Q h => lc_readM hgo (fun _ _ _ z => z) (fun _ _ _ z => z) σ H Q h
/-- name = [..] -/
theorem ss_setLc {i : Nat} {y : Str} {py : Pos} {elt tg iter : Expr} {ifs : List Expr} {scope : Scope} {own : List (Str × Nat)} {pos spos : Pos} {it : IF} {g : TG} {ttf : TF} {te : EF} {F : EF} (hW : Flat W) (hc : X.calm = true) (hN : X.N.Nodup) (hy : X.N[i]? = some y) (hyl : X.env.scope.names.lookup y = some .local)
    (hsw : swapsWith (.ListComp elt [⟨tg, iter, ifs, 0⟩] scope pos) (some (.Name y py)) spos.line X.env = pure true) (hi : SI X W tg iter it) (okb : BlkOk X.N X.env.scope scope own)
    (hg : ∀ (s : Shared) (H : Hp) (C : Addr) (cl : List (Str × Addr)) (fp : List Addr), PG (X.blk s H scope (compEnvC scope cl C X.env) fp) tg g)
    (ht : ∀ (s : Shared) (H : Hp) (C : Addr) (cl : List (Str × Addr)) (fp : List Addr), PTs (X.blk s H scope (compEnvC scope cl C X.env) fp) ifs (tT X (fun _ _ _ _ => False) ttf))
    (he : ∀ (s : Shared) (H : Hp) (C : Addr) (cl : List (Str × Addr)) (fp : List Addr), PE (X.blk s H scope (compEnvC scope cl C X.env) fp) elt (tE X (fun _ _ _ _ => False) te)) (hs : notSet iter = true)
    (hF : ∀ σ H Q, tE X W F σ H Q → tLc (tI X W it) g (tT X (fun _ _ _ _ => False) ttf) (tE X (fun _ _ _ _ => False) te) (own.map (·.2)) σ H Q) :
    SS X W (.Assign [.Name y py] (.ListComp elt [⟨tg, iter, ifs, 0⟩] scope pos) spos) (asgS F (nameT i)) := by
  refine ps_weak (ps_setLc hc hN hy hyl hsw hi okb hg ht he (noFold hs)) fun De σ H ⟨μ, ρ, I, rr, ok, p⟩ => ?_
  refine hF σ H _ ⟨μ, ρ, I, rr, ok, (bindS_post hW p).imp (fun μ1 I1 H1 d e1 ok1 q v rv => ?_) fun _ _ _ z => z⟩
  exact q μ1 _ H1 Ext.refl ok1 ((rr.ext e1 ok).set rv i)
end
end MP
/-! MPO: own classes: attributes, methods, making -/
namespace MP
open PySem PySem.Spec L2

abbrev Clt := List (Str × List Str)
def insOf (I : MH) : D → Option (Nat × Str × List (Str × D))
  | .loc n => match I[n]? with
    | some (.ins c fs) => some (n, c, fs)
    | _ => none
  | _ => none
theorem insOf_some {I : MH} {d : D} {n : Nat} {c : Str} {fs : List (Str × D)} (h : insOf I d = some (n, c, fs)) : d = .loc n ∧ I[n]? = some (.ins c fs) := by
  unfold insOf at h
  split at h
  · rename_i m
    split at h
    · rename_i c' fs' e
      cases h
      exact ⟨rfl, e⟩
    · cases h
  · cases h
def hasAttr (tb : Clt) (c n : Str) : Bool := match tb.lookup c with
  | some as => as.contains n
  | none => false
def attrV (tb : Clt) (n : Str) (x : D) (I : MH) : Res D := match insOf I x with
  | some (_, c, fs) => if hasAttr tb c n then optR I (fs.lookup n) else .stuck
  | none => .stuck
def attrE (tb : Clt) (n : Str) (f : EF) : EF := fun ρ I => (f ρ I).bind fun x I1 => attrV tb n x I1
def putD (f : Str) (v : D) : List (Str × D) → List (Str × D)
  | [] => [(f, v)]
  | (g, x) :: r => if g = f then (g, v) :: r else (g, x) :: putD f v r
def setA (tb : Clt) (n : Str) (x v : D) (I : MH) : Res Unit := match insOf I x with
  | some (k, c, fs) => if hasAttr tb c n && decide (fs.length < 1000) then .ok () (I.set k (.ins c (putD n v fs))) else .stuck
  | none => .stuck
def fldT (tb : Clt) (n : Str) (fo : EF) : D → SF := fun d ρ I => (fo ρ I).bindS fun o I1 => (setA tb n o d I1).bindS fun _ I2 => .nx ρ I2
def addJ (x y : D) (I : MH) : Res D := match x, y with
  | .int i, .int j => .ok (.int (i + j)) I
  | _, _ => .stuck
theorem addJ_cases (x y : D) (I : MH) : (∃ i j, x = .int i ∧ y = .int j ∧ addJ x y I = .ok (.int (i + j)) I) ∨ addJ x y I = .stuck := by
  cases x <;> cases y <;> first
    | exact .inl ⟨_, _, rfl, rfl, rfl⟩
    | exact .inr rfl
def clsOf (I : MH) (o : D) : Option Str := (insOf I o).map fun q => q.2.1
def augF (tb : Clt) (n : Str) (g : D → D → MH → Res D) (fo f : EF) : SF := fun ρ I => (fo ρ I).bindS fun o I1 => (attrV tb n o I1).bindS fun x I2 => (f ρ I2).bindS fun y I3 => (g x y I3).calm.bindS fun z I4 =>
  if clsOf I4 o = clsOf I1 o then (setA tb n o z I4).bindS fun _ I5 => .nx ρ I5 else .stuck
/-- the class's methods: how many parameters, what it is worth -/
abbrev Mtt := List ((Str × Str) × Nat × FF)
def callM (mt : Mtt) (m : Str) (f : EF) (fs : List EF) : EF := fun ρ I => (f ρ I).bind fun x I1 => match insOf I1 x with
  | some (_, c, gs) => (match mt.lookup (c, m) with
    | some (n, F) => if (gs.lookup m).isNone then (seqA fs ρ I1).bind fun xs I2 => if xs.length + 1 = n then F (x :: xs) I2 else .stuck else .stuck
    | none => .stuck)
  | none => .stuck
def makeE (c : Str) (n : Nat) (F : FF) (fs : List EF) : EF := fun ρ I => (seqA fs ρ I).bind fun xs I1 => if xs.length + 1 = n then (F (.loc I1.length :: xs) (I1 ++ [.ins c []])).bind fun d I2 => match d with
  | .non => .ok (.loc I1.length) I2
  | _ => .stuck else .stuck

section
variable {S : D → V → Prop}
theorem RepP.get {n : Str} : ∀ {fs : List (Str × D)} {gs : List (Str × V)}, RepP (fun x y => x = y) S fs gs → (∀ d, fs.lookup n = some d → ∃ v, gs.lookup n = some v ∧ S d v) ∧ (fs.lookup n = none → gs.lookup n = none)
  | [], gs, h => by
    cases h
    exact ⟨fun d e => (by cases e), fun _ => rfl⟩
  | (k, x) :: fs, gs, h => by
    obtain ⟨k', v, r, rfl, rfl, h3, h4⟩ := h
    obtain ⟨i1, i2⟩ := RepP.get (n := n) h4
    rw [List.lookup_cons, List.lookup_cons]
    cases e : n == k with
    | true =>
      refine ⟨fun d z => ?_, fun z => (by cases z)⟩
      cases z
      exact ⟨v, rfl, h3⟩
    | false => exact ⟨i1, i2⟩
theorem RepP.put {n : Str} {d : D} {v : V} (hd : S d v) : ∀ {fs : List (Str × D)} {gs : List (Str × V)}, RepP (fun x y => x = y) S fs gs → RepP (fun x y => x = y) S (putD n d fs) (putF n v gs)
  | [], gs, h => by
    cases h
    exact ⟨n, v, [], rfl, rfl, hd, rfl⟩
  | (k, x) :: fs, gs, h => by
    obtain ⟨k', w, r, rfl, rfl, h3, h4⟩ := h
    show RepP _ S (if k = n then (k, d) :: fs else (k, x) :: putD n d fs) (if k = n then (k, v) :: r else (k, w) :: putF n v r)
    by_cases e : k = n
    · rw [if_pos e, if_pos e]
      exact ⟨k, v, r, rfl, rfl, hd, h4⟩
    · rw [if_neg e, if_neg e]
      exact ⟨k, w, _, rfl, rfl, h3, RepP.put hd h4⟩
end
section
variable {X : Cx} {W : WX} {tb : Clt}
def TbOk (X : Cx) (tb : Clt) : Prop := ∀ c as, tb.lookup c = some as → ClsOk X.K X.mg c as
theorem has_attr (h : TbOk X tb) {c n : Str} (e : hasAttr tb c n = true) : ∃ C, X.mg c = some (.ref C) ∧ Cls X.K C ∧ NoAttr X.K C n := by
  unfold hasAttr at e
  split at e
  · rename_i as ha
    obtain ⟨C, h1, h2, h3⟩ := h c as ha
    exact ⟨C, h1, h2, h3 n e⟩
  · cases e
/-- an instance's cell -/
theorem ins_rep {μ : List Addr} {I : MH} {H : Hp} {d : D} {v : V} {n : Nat} {c : Str} {fs : List (Str × D)} (ok : Ok X.K X.mg μ I H) (r : RV X.K μ I H d v) (h : insOf I d = some (n, c, fs)) :
    ∃ a C dx gs, v = .ref a ∧ μ[n]? = some a ∧ I[n]? = some (.ins c fs) ∧ X.mg c = some (.ref C) ∧ H a = some (.ins C dx gs) ∧ RepP (fun x y => x = y) (RV X.K μ I H) fs gs := by
  obtain ⟨rfl, hi⟩ := insOf_some h
  obtain ⟨a, rfl, ha⟩ := r
  obtain ⟨C, dx, gs, h1, h2, h3⟩ := ok.cell n _ a hi ha
  exact ⟨a, C, dx, gs, rfl, ha, hi, h1, h2, h3⟩
theorem attr_calm {n : Str} : ∀ d I x I', attrV tb n d I ≠ .err x I' := by
  intro d I x I' h
  unfold attrV at h
  split at h
  · split at h
    · unfold optR at h; split at h <;> cases h
    · cases h
  · cases h
theorem attr_ok {n : Str} {d d' : D} {I I' : MH} (h : attrV tb n d I = .ok d' I') : I' = I ∧ ∃ k c fs, insOf I d = some (k, c, fs) ∧ hasAttr tb c n = true ∧ fs.lookup n = some d' := by
  unfold attrV at h
  split at h
  · rename_i k c fs e
    split at h
    · rename_i ha
      cases hl : fs.lookup n with
      | none => rw [hl] at h; cases h
      | some y =>
        rw [hl] at h
        cases h
        exact ⟨rfl, k, c, fs, e, ha, hl⟩
    · cases h
  · cases h
theorem se_attr {e : Expr} {f : EF} {n : Str} {pos : Pos} (ht : TbOk X tb) (hb : baseOk e = true) (ha : SE X W e f) : SE X W (.Attribute e n pos) (attrE tb n f) := by
  refine pe_weak (pe_fld ha (base_ok hb)) fun σ H Q ⟨μ, ρ, I, rr, ok, p⟩ => ?_
  refine then_E rr ok p fun μ1 I1 H1 d v e1 rr1 ok1 rd p1 => ?_
  cases hx : attrV tb n d I1 with
  | err z I2 => exact absurd hx (attr_calm _ _ _ _)
  | stuck => rw [hx] at p1; exact p1.elim
  | ok d' I2 =>
    rw [hx] at p1
    obtain ⟨rfl, k, c, fs, h1, h2, h3⟩ := attr_ok hx
    obtain ⟨a, C, dx, gs, rfl, _, _, g1, g2, g3⟩ := ins_rep ok1 rd h1
    obtain ⟨C', c1, c2, c3⟩ := has_attr ht h2
    rw [g1] at c1
    cases c1
    obtain ⟨v', hv, rv⟩ := (RepP.get g3).1 _ h3
    exact ⟨a, C, dx, gs, v', rfl, g2, c2, c3, hv, fin0 ok1 p1 rv⟩
theorem setA_calm {n : Str} : ∀ o d I x I', setA tb n o d I ≠ .err x I' := by
  intro o d I x I' h
  unfold setA at h
  split at h
  · split at h <;> cases h
  · cases h
theorem setA_ok {n : Str} {o d : D} {I I' : MH} (h : setA tb n o d I = .ok () I') : ∃ k c fs, insOf I o = some (k, c, fs) ∧ hasAttr tb c n = true ∧ fs.length < 1000 ∧ I' = I.set k (.ins c (putD n d fs)) := by
  unfold setA at h
  split at h
  · rename_i k c fs e
    split at h
    · rename_i ha
      have b := Bool.and_eq_true_iff.mp ha
      cases h
      exact ⟨k, c, fs, e, b.1, of_decide_eq_true b.2, rfl⟩
    · cases h
  · cases h
/-- the store of an attribute, by its cell -/
theorem put_rep {μ : List Addr} {I : MH} {H : Hp} {o d : D} {ov v : V} {n : Str} {k : Nat} {c : Str} {fs : List (Str × D)} (ok : Ok X.K X.mg μ I H) (ro : RV X.K μ I H o ov) (rd : RV X.K μ I H d v) (hi : insOf I o = some (k, c, fs)) :
    ∃ a C dx gs, ov = .ref a ∧ X.mg c = some (.ref C) ∧ H a = some (.ins C dx gs) ∧ gs.length = fs.length ∧
      Ext μ I H μ (I.set k (.ins c (putD n d fs))) (upd H a (.ins C dx (putF n v gs))) ∧ Ok X.K X.mg μ (I.set k (.ins c (putD n d fs))) (upd H a (.ins C dx (putF n v gs))) := by
  obtain ⟨a, C, dx, gs, rfl, g0, gi, g1, g2, g3⟩ := ins_rep ok ro hi
  have st := ok.write (c' := .ins c (putD n d fs)) (o := .ins C dx (putF n v gs)) g0 gi rfl rfl fun e => ⟨C, dx, _, g1, upd_same, RepP.put (RepV.ext e ok _ _ rd) (g3.mono fun x y z => RepV.ext e ok x y z)⟩
  exact ⟨a, C, dx, gs, rfl, g1, g2, (RepP.length g3).symm, st.1, st.2⟩
theorem ss_setA {o e : Expr} {fo f : EF} {n : Str} {pos pos' : Pos} (hW : Flat W) (ht : TbOk X tb) (hs : swapsWith e (some (.Attribute o n pos')) pos.line X.env = pure false) (ho : SE X W o fo) (he : SE X W e f) : SS X W (.Assign [.Attribute o n pos'] e pos) (asgS f (fldT tb n fo)) := by
  refine ps_weak (ps_fld ho he hs) fun De σ H ⟨μ, ρ, I, rr, ok, p⟩ => ?_
  refine ⟨μ, ρ, I, rr, ok, (bindS_post hW (σ := σ) p).imp (S' := sE X _) (fun μ1 I1 H1 d e1 ok1 q v rv => ?_) fun _ _ _ z => z⟩
  have rr1 := rr.ext e1 ok
  refine ⟨μ1, ρ, I1, rr1, ok1, (bindS_post hW (σ := σ) q).imp (S' := sE X _) (fun μ2 I2 H2 o' e2 ok2 q2 ov ro => ?_) fun _ _ _ z => z⟩
  cases hx : setA tb n o' d I2 with
  | err z I3 => exact absurd hx (setA_calm _ _ _ _ _)
  | stuck => rw [hx] at q2; exact q2.elim
  | ok u I3 =>
    rw [hx] at q2
    obtain ⟨k, c, fs, h1, h2, h3, rfl⟩ := setA_ok hx
    obtain ⟨a, C, dx, gs, rfl, g1, g2, g3, g4, g5⟩ := put_rep (n := n) ok2 ro (RepV.ext e2 ok1 _ _ rv) h1
    obtain ⟨C', c1, c2, c3⟩ := has_attr ht h2
    rw [g1] at c1
    cases c1
    exact ⟨a, C, dx, gs, rfl, g2, c2, c3, by omega, q2 μ2 σ _ g4 g5 ((rr1.ext e2 ok1).ext g4 ok2)⟩
theorem ss_augA {o e : Expr} {fo f : EF} {n : Str} {pos pos' : Pos} (hW : Flat W) (ht : TbOk X tb) (ho : SE X W o fo) (he : SE X W e f) : SS X W (.AugAssign (.Attribute o n pos') .Add e pos) (augF tb n addJ fo f) := by
  refine ps_weak (ps_fldaug ho he in_add) fun De σ H ⟨μ, ρ, I, rr, ok, p⟩ => ?_
  refine ⟨μ, ρ, I, rr, ok, (bindS_post hW (σ := σ) p).imp (S' := sE X _) (fun μ1 I1 H1 o' e1 ok1 q ov ro => ?_) fun _ _ _ z => z⟩
  have rr1 := rr.ext e1 ok
  cases hx : attrV tb n o' I1 with
  | err z I2 => exact absurd hx (attr_calm _ _ _ _)
  | stuck => rw [hx] at q; exact q.elim
  | ok d' I2 =>
    rw [hx] at q
    obtain ⟨rfl, k, c, fs, h1, h2, h3⟩ := attr_ok hx
    obtain ⟨a, C, dx, gs, rfl, _, _, g1, g2, g3⟩ := ins_rep ok1 ro h1
    obtain ⟨C', c1, c2, c3⟩ := has_attr ht h2
    rw [g1] at c1
    cases c1
    obtain ⟨v', hv, rv⟩ := (RepP.get g3).1 _ h3
    refine ⟨a, C, dx, gs, v', rfl, g2, c2, c3, hv, ?_⟩
    have q : SPost X W De μ1 I2 H1 ((f ρ I2).bindS fun y I3 => (addJ d' y I3).calm.bindS fun z I4 => if clsOf I4 o' = clsOf I2 o' then (setA tb n o' z I4).bindS fun _ I5 => .nx ρ I5 else .stuck) := q
    refine ⟨μ1, ρ, I2, rr1, ok1, (bindS_post hW (σ := σ) q).imp (S' := sE X _) (fun μ3 I3 H3 y e3 ok3 q3 yv ry => ?_) fun _ _ _ z => z⟩
    have rx3 := RepV.ext e3 ok1 _ _ rv
    have ro3 := RepV.ext e3 ok1 _ _ ro
    rcases addJ_cases d' y I3 with ⟨i, j, rfl, rfl, ea⟩ | ea
    · rw [ea] at q3
      cases rx3
      cases ry
      refine ⟨i, j, rfl, rfl, ?_⟩
      have q3 : SPost X W De μ3 I3 H3 (if clsOf I3 o' = clsOf I2 o' then (setA tb n o' (.int (i + j)) I3).bindS fun _ I5 => .nx ρ I5 else .stuck) := q3
      split at q3
      · rename_i hcl
        cases hy : setA tb n o' (.int (i + j)) I3 with
        | err z I4 => exact absurd hy (setA_calm _ _ _ _ _)
        | stuck => rw [hy] at q3; exact q3.elim
        | ok u I4 =>
          rw [hy] at q3
          obtain ⟨k2, c2', fs2, h1', h2', h3', rfl⟩ := setA_ok hy
          obtain ⟨a2, C2, dx2, gs2, e2', g1', g2', g3', g4', g5'⟩ := put_rep (n := n) (d := .int (i + j)) (v := .int (i + j)) ok3 ro3 rfl h1'
          cases e2'
          unfold clsOf at hcl
          rw [h1, h1'] at hcl
          cases hcl
          rw [g1] at g1'
          cases g1'
          exact ⟨dx2, gs2, g2', by omega, q3 μ3 σ _ g4' g5' ((rr1.ext e3 ok1).ext g4' ok3)⟩
      · exact q3.elim
    · rw [ea] at q3
      exact q3.elim
/-! methods -/
/-- what a method is, and what it promises -/
structure MthOk (X : Cx) (k : Nat) (C : Addr) (m : Str) (n : Nat) (F : FF) : Prop where
  ex : ∃ f fd ps, Cls X.K C ∧ Meth X.K C m f ∧ Binds X.K fd ps [] ∧ FnOk X.prog X.w X.K X.mg X.base (L2N.CX X.prog X.w) k f fd ps (spSim X.K X.mg n F)
theorem pe_methOS {k : Nat} {m : Str} {pos apos : Pos} {o : Expr} {es : List Expr} {ta : TE} {t : TA} {pl : Sem Bool} (he : PE X o ta) (hr : Room k X.A) (tk : L2N.Takes X W) (ha : PA X es t) (hst : es.all notStar = true) (hes : es ≠ [])
    (ht : eval (.Call (.Attribute o m apos) es [] pos) X.env = (do
      let ov ← eval o X.env
      standAt apos.atName
      let (f, first) ← holding [ov] (getMethod ov m pl)
      callWith pos f first (backTo pos (starEach es X.env)) (backToKw pos (keywordEach [] X.env)))) :
    PE X (.Call (.Attribute o m apos) es [] pos) (fun σ H Q => ta σ H fun x H1 => ∃ a C dx fs n F, x = .ref a ∧ H1 a = some (.ins C dx fs) ∧ fs.lookup m = none ∧ MthOk X k C m n F ∧ t σ H1 fun vs H2 => spSim X.K X.mg n F (x :: vs) H2 Q (WE W σ)) := by
  refine ⟨fun pins s σ H Q I h => ?_⟩
  refine PySem.W.methodCall_KW (pl := pl) (thn (he.run pins s σ H _ I h) fun u s1 ⟨x, H1, I1, rx, a, C, dx, fs, n, G, ex, ea, l, M, q⟩ => ?_) ht
  subst ex
  obtain rfl : u = Value.ref a := rx
  obtain ⟨f, fd, ps, c, hm, hb, F⟩ := M.ex
  refine getmeth_ok I1 ea c hm l ?_
  cases es with
  | nil => exact absurd rfl hes
  | cons e es =>
    have hst' := Bool.and_eq_true_iff.mp (by rw [List.all_cons] at hst; exact hst)
    refine PySem.W.callWith_K (first := [.ref a]) (h₀ := X.base) I.ok.mod.kin hm.kp (thn (ha.run pos pins s1 σ H1 _ I1 q) fun us s2 ⟨vs, H2, I2, r, q2⟩ => ⟨I2.kIn, ?_⟩) (star_cons hst'.1) (star_any hst'.2)
    exact run_fnS (E := WE W) (us := .ref a :: us) (vs := .ref a :: vs) F hr hb (L2N.passAt tk σ) I2 (.cons rfl r) q2
theorem pe_methOS0 {k : Nat} {m : Str} {pos apos : Pos} {o : Expr} {ta : TE} {pl : Sem Bool} (he : PE X o ta) (hr : Room k X.A) (tk : L2N.Takes X W)
    (ht : eval (.Call (.Attribute o m apos) [] [] pos) X.env = (do
      let ov ← eval o X.env
      standAt apos.atName
      let (f, first) ← holding [ov] (getMethod ov m pl)
      callWith pos f first (backTo pos (starEach [] X.env)) (backToKw pos (keywordEach [] X.env)))) :
    PE X (.Call (.Attribute o m apos) [] [] pos) (fun σ H Q => ta σ H fun x H1 => ∃ a C dx fs n F, x = .ref a ∧ H1 a = some (.ins C dx fs) ∧ fs.lookup m = none ∧ MthOk X k C m n F ∧ spSim X.K X.mg n F [x] H1 Q (WE W σ)) := by
  refine ⟨fun pins s σ H Q I h => ?_⟩
  refine PySem.W.methodCall_KW (pl := pl) (thn (he.run pins s σ H _ I h) fun u s1 ⟨x, H1, I1, rx, a, C, dx, fs, n, G, ex, ea, l, M, q⟩ => ?_) ht
  subst ex
  obtain rfl : u = Value.ref a := rx
  obtain ⟨f, fd, ps, c, hm, hb, F⟩ := M.ex
  refine getmeth_ok I1 ea c hm l ?_
  exact PySem.W.callWith_K0 (first := [.ref a]) I1.kIn hm.kp (run_fnS (E := WE W) (us := [.ref a]) (vs := [.ref a]) F hr hb (L2N.passAt tk σ) I1 (.cons rfl .nil) q)
theorem meth_tree {o : Expr} {m : Str} {es : List Expr} {apos cpos : Pos} {env : Env} (hb : baseOk o = true) (hn : es.all notStar = true) (hl : decide (es.length < 30) = true) (hline : (apos.endLine == cpos.line) = true) :
    eval (.Call (.Attribute o m apos) es [] cpos) env = (do
      let ov ← eval o env
      standAt apos.atName
      let (f, first) ← holding [ov] (getMethod ov m (do return (← importBound o env).getD true))
      callWith cpos f first (backTo cpos (starEach es env)) (backToKw cpos (keywordEach [] env))) := by
  have hf : methodCallForm (es.length + ([] : List Keyword).length) (backTo cpos (starEach es env)) (backToKw cpos (keywordEach [] env)) = true := by
    unfold methodCallForm
    rw [star_all hn]
    have : es.length < 30 := of_decide_eq_true hl
    show (true && true && decide (es.length + 0 + 0 < 30)) = true
    rw [decide_eq_true (by omega)]
    rfl
  rw [arm_eval_Call, base_ok hb]
  unfold methodCall calleeOf methodCallPos
  rw [hf, hline]
  rfl
theorem se_callM {C : CC} {k : Nat} {o : Expr} {m : Str} {es : List Expr} {f : EF} {fs : List EF} {apos cpos : Pos} (M : Mt X C W k) (ho : SE X W o f) (ha : SA X W es (seqA fs)) (hlen : es.length = fs.length)
    (hb : baseOk o = true) (hn : es.all notStar = true) (hl : decide (es.length < 30) = true) (hline : (apos.endLine == cpos.line) = true) : SE X W (.Call (.Attribute o m apos) es [] cpos) (callM C.mth m f fs) := by
  have mth : ∀ {μ : List Addr} {I : MH} {H : Hp} {d : D} {v : V} {n q : Nat} {c : Str} {gs : List (Str × D)} {F : FF}, Ok X.K X.mg μ I H → RV X.K μ I H d v → insOf I d = some (q, c, gs) → C.mth.lookup (c, m) = some (n, F) → (gs.lookup m).isNone = true →
      ∃ a Ca dx fs, v = .ref a ∧ H a = some (.ins Ca dx fs) ∧ fs.lookup m = none ∧ MthOk X k Ca m n F := by
    intro μ I H d v n q c gs F ok rd hi hm hg
    obtain ⟨a, Ca, dx, fs, rfl, _, _, g1, g2, g3⟩ := ins_rep ok rd hi
    obtain ⟨C', f, fd, ps, h1, h2, h3, h4, h5⟩ := (M.mdl.mth _ _ _ _ hm).ex
    rw [g1] at h1
    cases h1
    exact ⟨a, Ca, dx, fs, rfl, g2, (RepP.get g3).2 (Option.isNone_iff_eq_none.mp hg), ⟨f, fd, ps, h2, h3, h4, h5⟩⟩
  have body : ∀ (σ : L2.St) (H : Hp) (Q : VK) (t : L2.St → Hp → (List V → Hp → Prop) → Prop), (∀ σ H Q, tA X W (seqA fs) σ H Q → t σ H Q) → tE X W (callM C.mth m f fs) σ H Q →
      tE X W f σ H fun x H1 => ∃ a Ca dx gs n F, x = .ref a ∧ H1 a = some (.ins Ca dx gs) ∧ gs.lookup m = none ∧ MthOk X k Ca m n F ∧ t σ H1 fun vs H2 => spSim X.K X.mg n F (x :: vs) H2 Q (WE W σ) := by
    intro σ H Q t ht ⟨μ, ρ, I, rr, ok, p⟩
    refine then_E rr ok p fun μ1 I1 H1 d v e1 rr1 ok1 rd p1 => ?_
    split at p1
    · rename_i q c gs hi
      split at p1
      · rename_i n F hm
        split at p1
        · rename_i hg
          obtain ⟨a, Ca, dx, hs, rfl, g1, g2, g3⟩ := mth ok1 rd hi hm hg
          refine ⟨a, Ca, dx, hs, n, F, rfl, g1, g2, g3, ht _ _ _ ?_⟩
          refine then_A rr1 ok1 p1 fun μ2 I2 H2 ds vs e2 rr2 ok2 rds p2 => ?_
          split at p2
          · rename_i hl
            exact ⟨by rw [List.length_cons, ← RVs.length rds]; exact hl, μ2, I2, d :: ds, ok2, ⟨.ref a, vs, rfl, RepV.ext e2 ok1 _ _ rd, rds⟩, p2⟩
          · exact p2.elim
        · exact p1.elim
      · exact p1.elim
    · exact p1.elim
  cases es with
  | nil =>
    refine pe_weak (pe_methOS0 ho M.room M.tk (meth_tree hb hn hl hline)) fun σ H Q h => ?_
    refine body σ H Q (fun σ H Q => Q [] H) (fun σ H Q z => ?_) h
    cases fs with
    | cons => cases hlen
    | nil =>
      obtain ⟨μ, ρ, I, rr, ok, p⟩ := z
      exact p μ H Ext.refl ok [] rfl
  | cons e es => exact pe_weak (pe_methOS ho M.room M.tk ha hn (by simp) (meth_tree hb hn hl hline)) fun σ H Q h => body σ H Q (tA X W (seqA fs)) (fun _ _ _ z => z) h
/-! making -/
theorem run_makeS {CX : CXT} {k : Nat} {f C : Addr} {fd : FuncData} {ps : List Str} {sp : Sp} {E : XK} {pins : List (Addr × Obj)} {σ : L2.St} {H : Hp} {s : Shared} {Q : VK} {us : List Value} {vs : List V} (M : Mk X.K C f) (F : FnOk X.prog X.w X.K X.mg X.base CX k f fd ps sp) (hr : Room (k + 1) X.A) (hb : Binds X.K fd ps [])
    (hx : PassesAt CX X σ E) (I : Inv X pins σ H s) (r : Vals vs us)
    (h : ∀ x dx, H x = none → H dx = none → dx ≠ x → sp (.ref x :: vs) (upd (upd H dx (.own x)) x (.ins C dx [])) (fun v H2 => v = .non ∧ Q (.ref x) H2) E) :
    wpAny (model X.prog X.w) X.A (call (.ref C) us) (EP X pins σ Q) X.xe s := by
  have hq := h (s.heap.objs.size + 1) s.heap.objs.size (I.hok.fresh (Nat.le_succ _)) (I.hok.fresh (Nat.le_refl _)) (Nat.ne_of_lt (Nat.lt_succ_self _))
  have I2 := Inv.made (C := C) I
  have r2 : Vals (V.ref (s.heap.objs.size + 1) :: vs) (Value.ref (s.heap.objs.size + 1) :: us) := .cons rfl r
  have hl : (Value.ref (s.heap.objs.size + 1) :: us).length = ps.length := by
    have e := r2.length
    rw [F.len _ _ _ _ hq] at e
    exact e.symm
  have b : ∀ s2 : Shared, X.K.In s2.heap → BindsTo s2 fd ⟨Value.ref (s.heap.objs.size + 1) :: us, []⟩ (ps.zip (Value.ref (s.heap.objs.size + 1) :: us)) := fun s2 k2 => by
    have := hb s2 (Value.ref (s.heap.objs.size + 1) :: us) k2 (by rw [List.append_nil]; exact hl)
    rw [List.append_nil] at this
    exact this
  refine wpAny_call (make_map (f := f) I.kIn M.makes M.init (beq_iff_eq.mp M.fn) (codeAny_mono (F.run _ X.stack _ _ ⟨Value.ref (s.heap.objs.size + 1) :: us, []⟩ (Value.ref (s.heap.objs.size + 1) :: us) _ _ E (hr.make C us [])
    (I2.env0.make C us []) (b _ I2.kIn) r2 hq) fun r s' hq' => ?_))
  cases r with
  | error e => exact hx pins _ _ e s' I2 hq'
  | ok fl =>
    cases fl with
    | ret u =>
      obtain ⟨v, H', I3, rv, ev, q3⟩ := I2.after hq'
      subst ev
      exact ⟨rv, ⟨V.ref (s.heap.objs.size + 1), H', I3, rfl, q3⟩⟩
    | next => exact False.elim hq'
    | brk => exact False.elim hq'
    | cont => exact False.elim hq'
theorem se_make {C : CC} {k n : Nat} {F : FF} {x : Str} {p pos : Pos} {e : Expr} {es : List Expr} {fs : List EF} (M : Mt X C W k) (hF : C.mks.lookup x = some (n, F)) (hg : Gl X x) (hdb : (x == ("__debug__" : Str)) = false) (hn : (e :: es).all notStar = true)
    (ha : SA X W (e :: es) (seqA fs)) : SE X W (.Call (.Name x p) (e :: es) [] pos) (makeE x n F fs) := by
  obtain ⟨j, hj, S⟩ := M.mdl.mks x n F hF
  obtain ⟨Ca, f, fd, ps, h1, h2, h3, h4⟩ := S.ex
  have hn' := Bool.and_eq_true_iff.mp (by rw [List.all_cons] at hn; exact hn)
  refine ⟨fun pins s σ H Q I h => ?_⟩
  obtain ⟨μ, ρ, J, rr, ok, q⟩ := h
  refine wpAny_Call_Name_kw (ld_glob I hg h1 ?_ hdb)
  refine PySem.W.callWith_K (h₀ := X.base) I.ok.mod.kin h2.kp (thn (ha.run pos pins s σ H _ I (then_A (R := fun vs H1 => ∀ x dx, H1 x = none → H1 dx = none → dx ≠ x → spSim X.K X.mg n F (.ref x :: vs) (upd (upd H1 dx (.own x)) x (.ins Ca dx [])) (fun v H2 => v = .non ∧ Q (.ref x) H2) (WE W σ)) rr ok q fun μ1 I1 H1 ds vs e1 rr1 ok1 rd p1 => ?_)) fun us s1 ⟨vs, H1, I1, r, q1⟩ => ⟨I1.kIn, ?_⟩) (star_cons hn'.1) (star_any hn'.2)
  · intro y dx ny ndx ne
    split at p1
    · rename_i hl
      have hs1 : ∀ a o, H1 a = some o → upd H1 dx (.own y) a = some o := same_upd ndx
      have ny1 : upd H1 dx (.own y) y = none := by rw [upd_ne (Ne.symm ne)]; exact ny
      have ok2 := ok1.same hs1
      have hs2 : ∀ a o, upd H1 dx (.own y) a = some o → upd (upd H1 dx (.own y)) y (.ins Ca dx []) a = some o := same_upd ny1
      have st := ok2.alloc (c := .ins x []) (H' := upd (upd H1 dx (.own y)) y (.ins Ca dx [])) ny1 hs2 fun e => ⟨Ca, dx, [], h1, upd_same, rfl⟩
      have E2 : Ext μ1 I1 H1 (μ1 ++ [y]) (I1 ++ [.ins x []]) (upd (upd H1 dx (.own y)) y (.ins Ca dx [])) := (Ext.same hs1).trans st.1
      refine ⟨by rw [List.length_cons, ← RVs.length rd]; exact hl, μ1 ++ [y], I1 ++ [.ins x []], .loc I1.length :: ds, st.2, ⟨.ref y, vs, rfl, ⟨y, rfl, ?_⟩, RepVs.ext E2 ok1 _ _ rd⟩, ?_⟩
      · rw [← ok1.len]; simp
      · cases hF2 : F (.loc I1.length :: ds) (I1 ++ [.ins x []]) with
        | ok d I2 =>
          rw [hF2] at p1
          intro μ3 H3 e3 ok3 v rv
          cases d with
          | non =>
            cases rv
            have p2 : RPost X.K X.mg (fun c dd H' => W c dd σ H') μ1 I1 H1 (sE X Q) (.ok (.loc I1.length) I2) := p1
            refine ⟨rfl, p2 μ3 H3 (E2.trans e3) ok3 _ ⟨y, rfl, e3.pre _ _ ?_⟩⟩
            rw [← ok1.len]; simp
          | _ => exact (show False from p1).elim
        | err z I2 =>
          rw [hF2] at p1
          exact fun μ3 H3 c dd e3 ok3 rx => p1 μ3 H3 c dd (E2.trans e3) ok3 rx
        | stuck => rw [hF2] at p1; exact p1.elim
    · exact p1.elim
  · exact run_makeS h2 h4 (M.room.mono hj) h3 (L2N.passAt M.tk σ) I1 r q1
end
end MP
/-! MPD: dicts whose keys are ints and texts -/
namespace MP
open PySem PySem.Spec L2
abbrev KD := Sum Int (List Nat)
def keyD : D → Option KD
  | .int i => some (.inl i)
  | .str s => some (.inr s)
  | _ => none
def valD (kvs : List (KD × D)) (k : KD) : Option D := (kvs.find? fun kv => decide (kv.1 = k)).map (·.2)
def putKD (kvs : List (KD × D)) (k : KD) (v : D) : List (KD × D) := if kvs.any fun kv => decide (kv.1 = k) then kvs.map fun kv => if kv.1 = k then (kv.1, v) else kv else kvs ++ [(k, v)]
def dctOf (I : MH) : D → Option (Nat × List (KD × D))
  | .loc n => match I[n]? with
    | some (.dct kvs) => some (n, kvs)
    | _ => none
  | _ => none
theorem dctOf_some {I : MH} {d : D} {n : Nat} {kvs : List (KD × D)} (h : dctOf I d = some (n, kvs)) : d = .loc n ∧ I[n]? = some (.dct kvs) := by
  unfold dctOf at h
  split at h
  · split at h
    · rename_i e
      cases h
      exact ⟨rfl, e⟩
    · cases h
  · cases h
def inDD (neg : Bool) (x y : D) (I : MH) : Res D := match dctOf I y with
  | some (_, kvs) => (match keyD x with
    | some k => .ok (.bl (if neg then !(valD kvs k).isSome else (valD kvs k).isSome)) I
    | none => .stuck)
  | none => inB neg x y I
def ixDD (x y : D) (I : MH) : Res D := match dctOf I x with
  | some (_, kvs) => (match keyD y with
    | some k => optR I (valD kvs k)
    | none => .stuck)
  | none => ixD x y I
theorem repK_eq {a b : KD} {k j : Key} (h : RepK a k) (g : RepK b j) : (a = b) = (k = j) := by
  cases a with
  | inl i =>
    cases h
    cases b with
    | inl i' => cases g; exact propext ⟨fun z => (by cases z; rfl), fun z => (by cases z; rfl)⟩
    | inr s => cases g; exact propext ⟨fun z => (by cases z), fun z => (by cases z)⟩
  | inr s =>
    cases h
    cases b with
    | inl i' => cases g; exact propext ⟨fun z => (by cases z), fun z => (by cases z)⟩
    | inr s' => cases g; exact propext ⟨fun z => (by cases z; rfl), fun z => (by injection z with z; rw [toS_inj z])⟩
theorem key_rep {K : PySem.W.Frag} {μ : List Addr} {I : MH} {H : Hp} {d : D} {v : V} {k : KD} (r : RV K μ I H d v) (h : keyD d = some k) : ∃ j : Key, RepK k j ∧ v = kV j := by
  cases d with
  | int i => cases h; cases r; exact ⟨.inl i, rfl, rfl⟩
  | str s => cases h; cases r; exact ⟨.inr (toS s), rfl, rfl⟩
  | _ => cases h
section
variable {S : D → V → Prop}
theorem RepP.val {a : KD} {k : Key} (hk : RepK a k) : ∀ {ds : List (KD × D)} {vs : List (Key × V)}, RepP RepK S ds vs → match valD ds a with
    | some d => ∃ v, valV vs k = some v ∧ S d v
    | none => valV vs k = none
  | [], vs, h => by cases h; exact rfl
  | (b, d) :: ds, vs, h => by
    obtain ⟨j, v, r, rfl, h2, h3, h4⟩ := h
    have e := repK_eq h2 hk
    by_cases hb : b = a
    · have hj : j = k := by rw [← e]; exact hb
      have e1 : valD ((b, d) :: ds) a = some d := by unfold valD; rw [List.find?_cons_of_pos (by simpa using hb)]; rfl
      rw [e1]
      exact ⟨v, valV_pos hj, h3⟩
    · have hj : ¬ j = k := by rw [← e]; exact hb
      have e1 : valD ((b, d) :: ds) a = valD ds a := by unfold valD; rw [List.find?_cons_of_neg (by simpa using hb)]
      rw [e1, valV_neg hj]
      exact RepP.val hk h4
theorem RepP.any {a : KD} {k : Key} (hk : RepK a k) : ∀ {ds : List (KD × D)} {vs : List (Key × V)}, RepP RepK S ds vs → (ds.any fun kv => decide (kv.1 = a)) = (vs.any fun kv => decide (kv.1 = k))
  | [], vs, h => by cases h; rfl
  | (b, d) :: ds, vs, h => by
    obtain ⟨j, v, r, rfl, h2, h3, h4⟩ := h
    rw [List.any_cons, List.any_cons, RepP.any hk h4]
    congr 1
    exact decide_eq_decide.mpr (by rw [repK_eq h2 hk])
theorem RepP.repl {a : KD} {k : Key} {d : D} {v : V} (hk : RepK a k) (hd : S d v) : ∀ {ds : List (KD × D)} {vs : List (Key × V)}, RepP RepK S ds vs → RepP RepK S (ds.map fun kv => if kv.1 = a then (kv.1, d) else kv) (vs.map fun kv => if kv.1 = k then (kv.1, v) else kv)
  | [], vs, h => by cases h; rfl
  | (b, d') :: ds, vs, h => by
    obtain ⟨j, w, r, rfl, h2, h3, h4⟩ := h
    rw [List.map_cons, List.map_cons]
    by_cases hb : b = a
    · have hj : j = k := by rw [← repK_eq h2 hk]; exact hb
      rw [if_pos hb, if_pos hj]
      exact ⟨j, v, _, rfl, h2, hd, RepP.repl hk hd h4⟩
    · have hj : ¬ j = k := by rw [← repK_eq h2 hk]; exact hb
      rw [if_neg hb, if_neg hj]
      exact ⟨j, w, _, rfl, h2, h3, RepP.repl hk hd h4⟩
theorem RepP.snoc {a : KD} {k : Key} {d : D} {v : V} (hk : RepK a k) (hd : S d v) : ∀ {ds : List (KD × D)} {vs : List (Key × V)}, RepP RepK S ds vs → RepP RepK S (ds ++ [(a, d)]) (vs ++ [(k, v)])
  | [], vs, h => by cases h; exact ⟨k, v, [], rfl, hk, hd, rfl⟩
  | (b, d') :: ds, vs, h => by
    obtain ⟨j, w, r, rfl, h2, h3, h4⟩ := h
    exact ⟨j, w, _, rfl, h2, h3, RepP.snoc hk hd h4⟩
theorem RepP.putK {a : KD} {k : Key} {d : D} {v : V} {ds : List (KD × D)} {vs : List (Key × V)} (hk : RepK a k) (hd : S d v) (h : RepP RepK S ds vs) : RepP RepK S (putKD ds a d) (L2.putK vs k v) := by
  unfold putKD L2.putK
  rw [RepP.any hk h]
  split
  · exact RepP.repl hk hd h
  · exact RepP.snoc hk hd h
end
section
variable {X : Cx} {W : WX}
theorem dct_rep {μ : List Addr} {I : MH} {H : Hp} {d : D} {v : V} {n : Nat} {kvs : List (KD × D)} (ok : Ok X.K X.mg μ I H) (r : RV X.K μ I H d v) (h : dctOf I d = some (n, kvs)) :
    ∃ a ks, v = .ref a ∧ μ[n]? = some a ∧ I[n]? = some (.dct kvs) ∧ H a = some (.dK ks) ∧ RepP RepK (RV X.K μ I H) kvs ks := by
  obtain ⟨rfl, hi⟩ := dctOf_some h
  obtain ⟨a, rfl, ha⟩ := r
  obtain ⟨ks, h1, h2⟩ := ok.cell n _ a hi ha
  exact ⟨a, ks, rfl, ha, hi, h1, h2⟩
theorem op_inD (hu : X.A.units + 64 < cLine) : OpR X (compareOp .In) (rS2 X (inDD false)) := by
  intro pins s σ H x y v u Q Iv rx ry ⟨μ, I, d, e, ok, rd, re, p⟩
  unfold inDD at p
  split at p
  · rename_i n kvs he
    split at p
    · rename_i k hk
      obtain ⟨a, ks, rfl, _, _, g1, g2⟩ := dct_rep ok re he
      obtain ⟨j, h1, rfl⟩ := key_rep rd hk
      cases ry
      have hv := RepP.val h1 g2
      refine d_in (by omega) Iv (DGet.k g1 (k := j)) rx fun s' I' => ⟨.bl (valV ks j).isSome, H, I', rfl, ?_⟩
      have e2 : (valV ks j).isSome = (valD kvs k).isSome := by
        cases hvd : valD kvs k with
        | none => rw [hvd] at hv; rw [hv]; rfl
        | some d => rw [hvd] at hv; obtain ⟨v, q, _⟩ := hv; rw [q]; rfl
      rw [e2]
      exact fin0 ok p rfl
    · exact p.elim
  · exact (cmp_ok hu (op := .In) rfl) pins s σ H x y v u Q Iv rx ry ⟨μ, I, d, e, ok, rd, re, p⟩
theorem op_ninD (hu : X.A.units + 64 < cLine) : OpR X (compareOp .NotIn) (rS2 X (inDD true)) := by
  intro pins s σ H x y v u Q Iv rx ry ⟨μ, I, d, e, ok, rd, re, p⟩
  unfold inDD at p
  split at p
  · rename_i n kvs he
    split at p
    · rename_i k hk
      obtain ⟨a, ks, rfl, _, _, g1, g2⟩ := dct_rep ok re he
      obtain ⟨j, h1, rfl⟩ := key_rep rd hk
      cases ry
      have hv := RepP.val h1 g2
      refine d_notIn (by omega) Iv (DGet.k g1 (k := j)) rx fun s' I' => ⟨.bl (!(valV ks j).isSome), H, I', rfl, ?_⟩
      have e2 : (valV ks j).isSome = (valD kvs k).isSome := by
        cases hvd : valD kvs k with
        | none => rw [hvd] at hv; rw [hv]; rfl
        | some d => rw [hvd] at hv; obtain ⟨v, q, _⟩ := hv; rw [q]; rfl
      rw [e2]
      exact fin0 ok p rfl
    · exact p.elim
  · exact (cmp_ok hu (op := .NotIn) rfl) pins s σ H x y v u Q Iv rx ry ⟨μ, I, d, e, ok, rd, re, p⟩
theorem ix_okD (hu : X.A.units + 64 < cLine) : IxR X (rS2 X ixDD) := by
  intro value slice pins s σ H x y v u Q Iv rx ry ⟨μ, I, d, e, ok, rd, re, p⟩ hs
  unfold ixDD at p
  split at p
  · rename_i n kvs he
    split at p
    · rename_i k hk
      obtain ⟨a, ks, rfl, _, _, g1, g2⟩ := dct_rep ok rd he
      obtain ⟨j, h1, rfl⟩ := key_rep re hk
      cases rx
      have hv := RepP.val h1 g2
      cases hvd : valD kvs k with
      | none => rw [hvd] at p; exact p.elim
      | some d =>
        rw [hvd] at p hv
        obtain ⟨w, q, rw'⟩ := hv
        have g := DGet.k g1 (k := j)
        rw [q] at g
        exact PyProof.Rows.tail_any (dict_typeIs Iv g) PySem.F.slot_dict_getitem.lookup (d_getItem (by omega) Iv g ry fun w' s' I' rv => ⟨w, H, I', rv, fin0 ok p rw'⟩) hs
    · exact p.elim
  · exact ix_ok value slice pins s σ H x y v u Q Iv rx ry ⟨μ, I, d, e, ok, rd, re, p⟩ hs
/-! displays -/
def pairsE : List (EF × EF) → En → MH → Res (List (D × D))
  | [] => fun _ I => .ok [] I
  | (f, g) :: r => fun ρ I => (f ρ I).bind fun x I1 => (g ρ I1).bind fun y I2 => (pairsE r ρ I2).bind fun ps I3 => .ok ((x, y) :: ps) I3
def keysD : List (D × D) → Option (List (KD × D))
  | [] => some []
  | (x, y) :: r => match keyD x, keysD r with
    | some k, some ks => some ((k, y) :: ks)
    | _, _ => none
def mergeD (kvs more : List (KD × D)) : List (KD × D) := more.foldl (fun acc kv => putKD acc kv.1 kv.2) kvs
def dictE (ps : List (EF × EF)) : EF := fun ρ I => (pairsE ps ρ (I ++ [.dct []])).bind fun qs I1 => match keysD qs, I1[I.length]? with
  | some kvs, some (.dct []) => if decide (kvs.length ≤ 15) then .ok (.loc I.length) (I1.set I.length (.dct (mergeD [] kvs))) else .stuck
  | _, _ => .stuck
/-- the readings of the pairs -/
def PRs (X : Cx) (W : WX) : List Expr → List Expr → List (EF × EF) → List (TE × TE) → Prop
  | [], [], [], [] => True
  | k :: ks, v :: vs, (f, g) :: r, (t, u) :: q => SE X W k f ∧ SE X W v g ∧ t = tE X W f ∧ u = tE X W g ∧ PRs X W ks vs r q
  | _, _, _, _ => False
theorem prs_pps {pos : Pos} : ∀ {ks vs : List Expr} {r : List (EF × EF)} {q : List (TE × TE)}, PRs X W ks vs r q → PPs X pos (ks.map some) vs q
  | [], [], [], [], _ => pps_nil
  | k :: ks, v :: vs, (f, g) :: r, (t, u) :: q, h => by
    obtain ⟨h1, h2, rfl, rfl, h3⟩ := h
    exact pps_cons h1 h2 (prs_pps h3)
theorem prs_run : ∀ {ks vs : List Expr} {r : List (EF × EF)} {q : List (TE × TE)} {σ : L2.St} {H : Hp} {Q : List (V × V) → Hp → Prop} {μ : List Addr} {ρ : En} {I : MH}, PRs X W ks vs r q → RepR X.K μ I H ρ σ → Ok X.K X.mg μ I H →
    RPost X.K X.mg (fun c dd H' => W c dd σ H') μ I H (fun μ' I' H' ps => ∀ vs', Paired (fun (a : D × D) (b : V × V) => RV X.K μ' I' H' a.1 b.1 ∧ RV X.K μ' I' H' a.2 b.2) ps vs' → Q vs' H') (pairsE r ρ I) → tPairs q σ H Q
  | [], [], [], [], σ, H, Q, μ, ρ, I, _, rr, ok, p => p μ H Ext.refl ok [] .nil
  | k :: ks, v :: vs, (f, g) :: r, (t, u) :: q, σ, H, Q, μ, ρ, I, h, rr, ok, p => by
    obtain ⟨h1, h2, rfl, rfl, h3⟩ := h
    refine then_E rr ok p fun μ1 I1 H1 d x e1 rr1 ok1 rd p1 => ?_
    refine then_E rr1 ok1 p1 fun μ2 I2 H2 d' y e2 rr2 ok2 rd' p2 => ?_
    refine prs_run (Q := fun ps H3 => Q ((x, y) :: ps) H3) h3 rr2 ok2 ((RPost.bind p2).imp (fun μ3 I3 H3 ps e3 ok3 p3 vs' rs => ?_) fun _ _ _ z => z)
    exact p3 μ3 H3 Ext.refl ok3 _ (.cons ⟨RepV.ext e3 ok2 _ _ (RepV.ext e2 ok1 _ _ rd), RepV.ext e3 ok2 _ _ rd'⟩ rs)
theorem keys_rep {μ : List Addr} {I : MH} {H : Hp} : ∀ {ps : List (D × D)} {vs : List (V × V)} {kvs : List (KD × D)}, Paired (fun (a : D × D) (b : V × V) => RV X.K μ I H a.1 b.1 ∧ RV X.K μ I H a.2 b.2) ps vs → keysD ps = some kvs →
    ∃ ks : List (Key × V), vs = ks.map (fun kv => (kV kv.1, kv.2)) ∧ RepP RepK (RV X.K μ I H) kvs ks
  | [], _, kvs, .nil, h => by cases h; exact ⟨[], rfl, rfl⟩
  | (x, y) :: ps, (v, u) :: vs, kvs, .cons h0 t, h => by
    unfold keysD at h
    split at h
    · rename_i k ks hk hks
      cases h
      obtain ⟨j, g1, g2⟩ := key_rep h0.1 hk
      obtain ⟨js, g3, g4⟩ := keys_rep t hks
      have g2' : v = kV j := g2
      exact ⟨(j, u) :: js, by rw [g2', g3]; rfl, j, u, js, rfl, g1, h0.2, g4⟩
    · cases h
theorem merge_rep {S : D → V → Prop} : ∀ {kvs : List (KD × D)} {ks : List (Key × V)} {a : List (KD × D)} {b : List (Key × V)}, RepP RepK S kvs ks → RepP RepK S a b → RepP RepK S (mergeD a kvs) (mergeK b ks)
  | [], _, a, b, h, g => by cases h; exact g
  | (k, d) :: kvs, _, a, b, h, g => by
    obtain ⟨j, v, r, rfl, h2, h3, h4⟩ := h
    exact merge_rep (a := putKD a k d) (b := L2.putK b j v) h4 (RepP.putK h2 h3 g)
theorem se_dict {ks vs : List Expr} {r : List (EF × EF)} {q : List (TE × TE)} {pos : Pos} (h : PRs X W ks vs r q) (hl : ks.length = vs.length) (h0 : ks ≠ []) (h15 : ks.length ≤ 15) : SE X W (.Dict (ks.map some) vs pos) (dictE r) := by
  refine pe_weak (pe_disp (prs_pps h) (by rw [List.all_map]; exact List.all_eq_true.mpr fun _ _ => rfl) (by rw [List.length_map]; exact hl) (by simpa using h0) (by rw [List.length_map]; exact h15)) fun σ H Q ⟨μ, ρ, I, rr, ok, p⟩ => ?_
  intro a na
  have hs := same_upd (o := HO.dK []) na
  have st := ok.alloc (c := .dct []) (H' := upd H a (.dK [])) na hs fun e => ⟨[], upd_same, rfl⟩
  have ha : (μ ++ [a])[I.length]? = some a := by rw [← ok.len]; simp
  refine prs_run h (rr.ext st.1 ok) st.2 ((RPost.bind (RPost.ext st.1 p)).imp (fun μ2 I2 H2 ps e2 ok2 p2 vs' rs => ?_) fun _ _ _ z => z)
  split at p2
  · rename_i kvs hk hc
    split at p2
    · rename_i hz
      obtain ⟨ks', g1, g2⟩ := keys_rep rs hk
      have ha2 := e2.pre _ _ ha
      obtain ⟨z, c1, c2⟩ := ok2.cell I.length _ a hc ha2
      cases c2
      refine ⟨c1, ks', g1, by rw [← RepP.length g2]; exact of_decide_eq_true hz, ?_⟩
      have st2 := ok2.write (c' := .dct (mergeD [] kvs)) (o := .dK (mergeK [] ks')) ha2 hc rfl rfl fun e => ⟨_, upd_same, merge_rep (g2.mono fun x y z => RepV.ext e ok2 x y z) rfl⟩
      exact p2 μ2 _ st2.1 st2.2 _ ⟨a, rfl, ha2⟩
    · exact p2.elim
  · exact p2.elim
/-- {} -/
def dict0E : EF := fun _ I => .ok (.loc I.length) (I ++ [.dct []])
theorem se_dict0 {pos : Pos} : SE X W (.Dict [] [] pos) dict0E := by
  refine pe_weak pe_dnewK fun σ H Q ⟨μ, ρ, I, rr, ok, p⟩ => ?_
  intro a na
  have st := ok.alloc (c := .dct []) (H' := upd H a (.dK [])) na (same_upd na) fun e => ⟨[], upd_same, rfl⟩
  exact p _ _ st.1 st.2 _ ⟨a, rfl, by rw [← ok.len]; simp⟩
/-! a dict of the written part, its keys texts -/
def kdIn (neg : Bool) (tb : List (List Nat × D)) (f : EF) : EF := fun ρ I => (f ρ I).bind fun x I1 => match x with
  | .str s => .ok (.bl (if neg then !(tb.lookup s).isSome else (tb.lookup s).isSome)) I1
  | _ => .stuck
def kdGet (tb : List (List Nat × D)) (f : EF) : EF := fun ρ I => (f ρ I).bind fun x I1 => match x with
  | .str s => optR I1 (tb.lookup s)
  | _ => .stuck
theorem se_kdIn {T : Str} {tb : List (List Nat × D)} {a : Expr} {f : EF} {p pos : Pos} (h : KdOk X.K X.w X.mg T tb) (hg : Gl X T) (hd : (T == ("__debug__" : Str)) = false) (ha : SE X W a f) : SE X W (.Compare a [.In] [.Name T p] pos) (kdIn false tb f) := by
  obtain ⟨d, es, n, h1, h2, h3⟩ := h
  have hT : PE X (.Name T p) (tC (.ref d)) := pe_glob hg h1 rfl hd
  refine pe_weak (pe_cmpR (op_in_kd h2) ha hT (noMarks rfl)) fun σ H Q ⟨μ, ρ, I, rr, ok, q⟩ => ?_
  refine then_E rr ok q fun μ1 I1 H1 x v e1 rr1 ok1 rd p1 => ?_
  split at p1
  · rename_i s
    cases rd
    have h4 := h3 s
    cases hl : tb.lookup s with
    | some y =>
      rw [hl] at h4 p1
      obtain ⟨u, v, g1, g2, g3⟩ := h4
      exact ⟨toS s, some u, rfl, rfl, g1, fin0 ok1 p1 rfl⟩
    | none =>
      rw [hl] at h4 p1
      exact ⟨toS s, none, rfl, rfl, h4, fin0 ok1 p1 rfl⟩
  · exact p1.elim
theorem st_kdIn {T : Str} {tb : List (List Nat × D)} {a : Expr} {f : EF} {p pos : Pos} (h : KdOk X.K X.w X.mg T tb) (hg : Gl X T) (hd : (T == ("__debug__" : Str)) = false) (ha : SE X W a f) : ST X W (.Compare a [.In] [.Name T p] pos) (boolE (kdIn false tb f)) := by
  obtain ⟨d, es, n, h1, h2, h3⟩ := h
  have hT : PE X (.Name T p) (tC (.ref d)) := pe_glob hg h1 rfl hd
  refine pt_weak (pt_cmpR (op_in_kd h2) ha hT (noMarks rfl)) fun σ H Q ⟨μ, ρ, I, rr, ok, q⟩ => ?_
  have q' := RPost.bind q
  refine then_E rr ok q' fun μ1 I1 H1 x v e1 rr1 ok1 rd p1 => ?_
  split at p1
  · rename_i s
    cases rd
    have h4 := h3 s
    have p2 := p1 μ1 H1 Ext.refl ok1
    cases hl : tb.lookup s with
    | some y =>
      rw [hl] at h4 p2
      obtain ⟨u, v, g1, g2, g3⟩ := h4
      exact ⟨toS s, some u, rfl, rfl, g1, _, rfl, p2 μ1 H1 Ext.refl ok1⟩
    | none =>
      rw [hl] at h4 p2
      exact ⟨toS s, none, rfl, rfl, h4, _, rfl, p2 μ1 H1 Ext.refl ok1⟩
  · exact p1.elim
theorem se_kdGet {T : Str} {tb : List (List Nat × D)} {b : Expr} {f : EF} {p pos : Pos} (h : KdOk X.K X.w X.mg T tb) (hg : Gl X T) (hd : (T == ("__debug__" : Str)) = false) (hs : notSlice b = true) (hb : SE X W b f) : SE X W (.Subscript (.Name T p) b pos) (kdGet tb f) := by
  obtain ⟨d, es, n, h1, h2, h3⟩ := h
  have hT : PE X (.Name T p) (tC (.ref d)) := pe_glob hg h1 rfl hd
  refine pe_weak (pe_ix ix_kdict hT hb (plainIx hs)) fun σ H Q ⟨μ, ρ, I, rr, ok, q⟩ => ?_
  refine then_E rr ok q fun μ1 I1 H1 x v e1 rr1 ok1 rd p1 => ?_
  split at p1
  · rename_i s
    cases rd
    have h4 := h3 s
    cases hl : tb.lookup s with
    | some y =>
      rw [hl] at h4 p1
      obtain ⟨u, v, g1, g2, g3⟩ := h4
      exact ⟨d, toS s, v, rfl, rfl, ⟨es, n, u, h2.at_, h2.lit, g1, g2⟩, fin0 ok1 p1 (g3 _ _ _)⟩
    | none => rw [hl] at p1; exact p1.elim
  · exact p1.elim
end
end MP
/-! MP9: from the written text to its reading by trees, and that it is right -/
namespace MP
open PySem PySem.Spec L2

def mapO {α β : Type} (f : α → Option β) : List α → Option (List β)
  | [] => some []
  | x :: xs => match f x, mapO f xs with
    | some y, some ys => some (y :: ys)
    | _, _ => none
theorem mapO_pair {α β : Type} {f : α → Option β} {R : α → β → Prop} (h : ∀ x y, f x = some y → R x y) : ∀ {xs : List α} {ys : List β}, mapO f xs = some ys → Paired R xs ys
  | [], _, e => by cases e; exact .nil
  | x :: xs, ys, e => by
    unfold mapO at e
    split at e
    · rename_i y zs h1 h2
      cases e
      exact .cons (h _ _ h1) (mapO_pair h h2)
    · cases e
def isGl (C : CC) (x : Str) : Bool := C.sc.names.lookup x == some .globalImplicit
def plainNm (x : Str) : Bool := !(x == ("__debug__" : Str)) && !(x == ("__classdict__" : Str)) && !(x == ("__name__" : Str))
def cName (C : CC) (x : Str) : Option EF := if plainNm x then (match C.sc.names.lookup x with
  | some .local => (idx x C.N).map getV
  | some .cell => (idx x C.N).map getV
  | some .free => (idx x C.N).map getV
  | some .globalImplicit => (C.cst.lookup x).map cV
  | _ => none) else none
def cConst : Const → Option EF
  | .none => some (cV .non)
  | .bool b => some (cV (.bl b))
  | .int i => some (cV (.int i))
  | .str s => some (cV (.str s.cps.toList))
  | _ => none
def foldE (op : BoolOp) : List EF → Option EF
  | [] => none
  | [f] => some f
  | f :: g :: fs => (foldE op (g :: fs)).map fun h => match op with
    | .And => andE f h
    | .Or => orE f h
def foldT (op : BoolOp) : List TF → Option TF
  | [] => none
  | [f] => some f
  | f :: g :: fs => (foldT op (g :: fs)).map fun h => match op with
    | .And => andT f h
    | .Or => orT f h
/-- a built-in function or class, called -/
def bltOf (x : Str) : Option (Value × (List D → MH → Res D)) :=
  if x = "len" then some (.builtin "len", lenD) else if x = "int" then some (.type "int", intD) else if x = "ord" then some (.builtin "ord", ordD)
  else if x = "tuple" then some (.type "tuple", tupleD) else if x = "list" then some (.type "list", listD) else if x = "all" then some (.builtin "all", allD) else if x = "any" then some (.builtin "any", anyD) else none
def mtOf (m : Str) : Option ((D → MH → Bool) × (D → List D → MH → Res D)) :=
  if m = "find" then some (isStr, findD) else if m = "endswith" then some (isStr, endswithD) else if m = "startswith" then some (isStr, startswithD) else if m = "join" then some (isStr, joinD)
  else if m = "append" then some (isLst, appendD) else if m = "extend" then some (isLst, extendD) else none
def tyOf (x : Str) : Option String := asked.find? fun t => Str.ofString t == x
def cIsi (r : Expr → Option EF) (C : CC) (es : List Expr) : Option EF := match es with
  | [a, .Name T _] => match tyOf T with
    | some t => if isGl C T && C.blt.contains T && plainNm T && notStar a then (r a).map (un1 (isiD t)) else none
    | none => none
  | _ => none
def cCall (r : Expr → Option EF) (C : CC) (x : Str) (es : List Expr) : Option EF :=
  if isGl C x && plainNm x && es.all notStar && !es.isEmpty then (match C.fns.lookup x with
    | some (n, F) => (mapO r es).map (callE n F)
    | none => match C.mks.lookup x with
      | some (n, F) => (mapO r es).map (makeE x n F)
      | none => if C.blt.contains x then (if x = "isinstance" then cIsi r C es else match bltOf x with
        | some (_, g) => (mapO r es).map (bltE g)
        | none => none) else none) else none
def cMeth (r : Expr → Option EF) (o : Expr) (m : Str) (es : List Expr) (apos cpos : Pos) : Option EF :=
  if baseOk o && es.all notStar && decide (es.length < 30) && (apos.endLine == cpos.line) && !es.isEmpty then (match mtOf m with
    | some (p, g) => match r o, mapO r es with
      | some f, some fs => some (methE p g f fs)
      | _, _ => none
    | none => none) else none
def isOwnM (C : CC) (m : Str) : Bool := C.mth.any fun q => q.1.2 == m
def cMethO (r : Expr → Option EF) (C : CC) (o : Expr) (m : Str) (es : List Expr) (apos cpos : Pos) : Option EF :=
  if baseOk o && es.all notStar && decide (es.length < 30) && (apos.endLine == cpos.line) then (match r o, mapO r es with
    | some f, some fs => some (callM C.mth m f fs)
    | _, _ => none) else none
def kdOf (C : CC) : Expr → Option (List (List Nat × D))
  | .Name T _ => if isGl C T && plainNm T then C.kds.lookup T else none
  | _ => none
def cmpD' : CmpOp → Option (D → D → MH → Res D)
  | .In => some (inDD false)
  | .NotIn => some (inDD true)
  | op => cmpD op
/-- comparison of two: with a dict of the written part, or any -/
def cCmp (r : Expr → Option EF) (C : CC) (a : Expr) (op : CmpOp) (b : Expr) : Option EF := match (if op = .In then kdOf C b else none) with
  | some tb => (r a).map (kdIn false tb)
  | none => if notSet b then (match r a, r b, cmpD' op with
      | some f, some h, some g => some (bin2 g f h)
      | _, _, _ => none) else none
def cIx (r : Expr → Option EF) (C : CC) (a b : Expr) : Option EF := if notSlice b then (match kdOf C a with
  | some tb => (r b).map (kdGet tb)
  | none => (match r a, r b with
      | some f, some h => some (bin2 ixDD f h)
      | _, _ => none)) else none
def cDict (r : Expr → Option EF) (keys : List (Option Expr)) (vals : List Expr) : Option EF := match keys, vals with
  | [], [] => some dict0E
  | keys, vals => (match mapO id keys with
    | some ks => if decide (ks.length = vals.length) && !ks.isEmpty && decide (ks.length ≤ 15) then (match mapO r ks, mapO r vals with
        | some fs, some gs => some (dictE (fs.zip gs))
        | _, _ => none) else none
    | none => none)
def cPart (r : Expr → Option EF) : Option Expr → Option (Option EF)
  | none => some none
  | some e => (r e).map some
def cIt (r : Expr → Option EF) (C : CC) (e : Expr) : Option IF := if notSet e then (match e with
  | .Call (.Name x p) [a] [] q => if x = "range" then (if isGl C x && C.blt.contains x && notStar a then (r a).map rng1I else none) else (r (.Call (.Name x p) [a] [] q)).map seqI
  | .Call (.Name x p) [a, b] [] q => if x = "range" then (if isGl C x && C.blt.contains x && notStar a && notStar b then (match r a, r b with
      | some f, some g => some (rng2I f g)
      | _, _ => none) else none) else (r (.Call (.Name x p) [a, b] [] q)).map seqI
  | e => (r e).map seqI) else none
def tgNames : Expr → Option (List Str)
  | .Name x _ => some [x]
  | .Tuple es _ _ => mapO isName es
  | _ => none
def ownOf (C : CC) (tg : Expr) : Option (List (Str × Nat)) := (tgNames tg).bind fun xs => mapO (fun x => (idx x C.N).map fun i => (x, i)) xs
def blkCC (C : CC) (scope : Scope) : CC := { C with sc := relS scope C.sc, isDef := false }
structure CompParts where
  it : IF
  own : List (Str × Nat)
  t : CTF
  ttf : TF
  te : EF
def tgT (tg : Expr) (is : List Nat) : CTF := match tg with
  | .Name _ _ => ctName (is.getD 0 0)
  | _ => ctTup is
def cComp (r : CC → Expr → Option EF) (rt : CC → Expr → Option TF) (C : CC) (elt : Expr) (gens : List Comprehension) (scope : Scope) : Option CompParts := match gens with
  | [⟨tg, iter, ifs, asy⟩] => if decide (asy = 0) && notSet iter then (match ownOf C tg with
    | some own => if blkC C.N C.sc scope own && own.all (fun p => (relS scope C.sc).names.lookup p.1 == some .local) then (match cIt (r C) C iter, r (blkCC C scope) elt with
      | some it, some te =>
        (match ifs with
        | [] => some ⟨it, own, tgT tg (own.map (·.2)), yesT, te⟩
        | [c] => (rt (blkCC C scope) c).map fun ttf => ⟨it, own, tgT tg (own.map (·.2)), ttf, te⟩
        | _ => none)
      | _, _ => none) else none
    | none => none) else none
  | _ => none

mutual
noncomputable def cE : Nat → CC → Expr → Option EF
  | 0, _, _ => none
  | n + 1, C, e => match e with
    | .Name x _ => cName C x
    | .Constant c _ _ => cConst c
    | .BinOp a op b _ => match cE n C a, cE n C b, binD' op with
      | some f, some h, some g => some (bin2 g f h)
      | _, _, _ => none
    | .UnaryOp .Not a _ => (cE n C a).map (un1 notB)
    | .UnaryOp .USub a _ => (cE n C a).map (un1 negD)
    | .BoolOp op vs _ => (mapO (cE n C) vs).bind (foldE op)
    | .Compare a [op] [b] _ => cCmp (cE n C) C a op b
    | .Compare a [op, op'] [b, c] _ => if notSet c then (match cE n C a, cE n C b, cE n C c, cmpD op, cmpD op' with
      | some f, some h, some h', some g, some g' => some (chain2 g g' f h h')
      | _, _, _, _, _ => none) else none
    | .IfExp c a b _ => match cT n C c, cE n C a, cE n C b with
      | some t, some f, some g => some (ifE t f g)
      | _, _, _ => none
    | .Tuple es _ _ => if es.all notStar then (mapO (cE n C) es).map tupE else none
    | .List es _ => if es.all notStar then (mapO (cE n C) es).map lstE else none
    | .Subscript a (.Slice lo hi none _) _ => match cE n C a, cPart (cE n C) lo, cPart (cE n C) hi with
      | some f, some l, some h => some (sliceE f l h)
      | _, _, _ => none
    | .Subscript a b _ => cIx (cE n C) C a b
    | .Attribute o m _ => if baseOk o then (cE n C o).map (attrE C.cls m) else none
    | .Dict keys vals _ => cDict (cE n C) keys vals
    | .Call (.Name x _) es [] _ => cCall (cE n C) C x es
    | .Call (.Attribute o m apos) es [] cpos => if isOwnM C m then cMethO (cE n C) C o m es apos cpos else cMeth (cE n C) o m es apos cpos
    | .ListComp elt gens scope _ => (cComp (cE n) (cT n) C elt gens scope).map fun p => lcE p.it (p.own.map (·.2)) p.t p.ttf p.te
    | _ => none
noncomputable def cT : Nat → CC → Expr → Option TF
  | 0, _, _ => none
  | n + 1, C, e => match e with
    | .UnaryOp .Not a _ => (cT n C a).map notT
    | .BoolOp op vs _ => (mapO (cT n C) vs).bind (foldT op)
    | .Compare a ops bs p => match ops, bs with
      | [op], [b] => (cCmp (cE n C) C a op b).map boolE
      | [op, op'], [b, c] => if notSet c then (match cE n C a, cE n C b, cE n C c, cmpD op, cmpD op' with
        | some f, some h, some h', some g, some g' => some (boolE (chain2 g g' f h h'))
        | _, _, _, _, _ => none) else none
      | _, _ => none
    | e => if plainTest e then (cE n C e).map truE else none
end

/-! ### it is right -/
theorem toS_list (s : Str) : toS s.cps.toList = s := by
  cases s; simp [toS]
theorem plain_nm {x : Str} (h : plainNm x = true) : (x == ("__debug__" : Str)) = false ∧ (x == ("__classdict__" : Str)) = false ∧ x ≠ "__name__" := by
  unfold plainNm at h
  have h1 := Bool.and_eq_true_iff.mp h
  have h2 := Bool.and_eq_true_iff.mp h1.1
  refine ⟨by simpa using h2.1, by simpa using h2.2, fun z => ?_⟩
  rw [z] at h1
  exact absurd h1.2 (by decide)
section
variable {X : Cx} {C : CC} {W : WX} {k : Nat}
theorem gl_of (M : Mt X C W k) {x : Str} (h : isGl C x = true) : Gl X x := by
  show X.env.scope.names.lookup x = some .globalImplicit
  rw [M.sc]
  exact eq_of_beq h
theorem name_ok (M : Mt X C W k) {x : Str} {pos : Pos} {f : EF} (h : cName C x = some f) : SE X W (.Name x pos) f := by
  unfold cName at h
  split at h
  · rename_i hp
    obtain ⟨h1, h2, h3⟩ := plain_nm hp
    have loc : ∀ f, (idx x C.N).map getV = some f → Vis X.env.scope x → SE X W (.Name x pos) f := fun f e hv => by
      cases hi : idx x C.N with
      | none => rw [hi] at e; cases e
      | some i =>
        rw [hi] at e; cases e
        exact se_var (by rw [M.N]; exact idx_get hi) hv h1 h2
    split at h
    · rename_i e; exact loc f h (.inl (by rw [M.sc]; exact e))
    · rename_i e; exact loc f h (.inr (.inl (by rw [M.sc]; exact e)))
    · rename_i e; exact loc f h (.inr (.inr (by rw [M.sc]; exact e)))
    · rename_i e
      cases hc : C.cst.lookup x with
      | none => rw [hc] at h; cases h
      | some d =>
        rw [hc] at h; cases h
        obtain ⟨u, v, m1, m2, m3⟩ := M.mdl.cst x d hc
        exact se_const (pe_glob (show X.env.scope.names.lookup x = _ by rw [M.sc]; exact e) m1 m2 h1) m3
    · cases h
  · cases h
theorem const_ok {c : Const} {j : Nat} {pos : Pos} {f : EF} (h : cConst c = some f) : SE X W (.Constant c j pos) f := by
  cases c with
  | none => cases h; exact se_const pe_non fun _ _ _ => rfl
  | bool b => cases h; exact se_const pe_bl fun _ _ _ => rfl
  | int i => cases h; exact se_const pe_int fun _ _ _ => rfl
  | str s => cases h; exact se_const pe_str fun _ _ _ => by show V.str s = V.str (toS s.cps.toList); rw [toS_list]
  | _ => cases h
theorem foldE_ok {op : BoolOp} {pos : Pos} : ∀ {vs : List Expr} {fs : List EF} {F : EF}, Paired (SE X W) vs fs → foldE op fs = some F → SE X W (.BoolOp op vs pos) F
  | [], _, _, .nil, h => by cases h
  | [a], [f], _, .cons h .nil, e => by cases e; exact pe_one h
  | a :: b :: vs, f :: g :: fs, F, .cons h (.cons h' t), e => by
    unfold foldE at e
    cases e2 : foldE op (g :: fs) with
    | none => rw [e2] at e; cases e
    | some G =>
      rw [e2] at e
      have ih := foldE_ok (pos := pos) (.cons h' t) e2
      cases op with
      | And => cases e; exact se_and h ih
      | Or => cases e; exact se_or h ih
theorem foldT_ok {op : BoolOp} {pos : Pos} : ∀ {vs : List Expr} {fs : List TF} {F : TF}, Paired (ST X W) vs fs → foldT op fs = some F → SW X W (.BoolOp op vs pos) F
  | [], _, _, .nil, h => by cases h
  | [a], [f], _, .cons h .nil, e => by
    cases e
    cases op with
    | And => exact pw_and1 h
    | Or => exact pw_or1 h
  | a :: b :: vs, f :: g :: fs, F, .cons h (.cons h' t), e => by
    unfold foldT at e
    cases e2 : foldT op (g :: fs) with
    | none => rw [e2] at e; cases e
    | some G =>
      rw [e2] at e
      have ih := foldT_ok (pos := pos) (.cons h' t) e2
      cases op with
      | And => cases e; exact sw_and h ih
      | Or => cases e; exact sw_or h ih
theorem blt_ok {x : Str} {v : Value} {g : List D → MH → Res D} (hc : X.calm = true) (h : bltOf x = some (v, g)) : CallR X v (rSn X g) ∧ bootBuiltins x = some v ∧ ((∃ id, v = .builtin id) ∨ ∃ T, v = .type T) := by
  unfold bltOf at h
  repeat' (split at h)
  all_goals first
    | (cases h; done)
    | (rename_i e; subst e; cases h; first
        | exact ⟨len_ok, by decide +kernel, .inl ⟨_, rfl⟩⟩
        | exact ⟨int_ok, by decide +kernel, .inr ⟨_, rfl⟩⟩
        | exact ⟨ord_ok, by decide +kernel, .inl ⟨_, rfl⟩⟩
        | exact ⟨tuple_ok, by decide +kernel, .inr ⟨_, rfl⟩⟩
        | exact ⟨list_ok, by decide +kernel, .inr ⟨_, rfl⟩⟩
        | exact ⟨all_ok hc, by decide +kernel, .inl ⟨_, rfl⟩⟩
        | exact ⟨any_ok hc, by decide +kernel, .inl ⟨_, rfl⟩⟩)
theorem asked_boot : (asked.all fun t => bootBuiltins (Str.ofString t) == some (.type t)) = true := by decide +kernel
theorem isi_ok (M : Mt X C W k) {r : Expr → Option EF} (hr : ∀ e f, r e = some f → SE X W e f) {es : List Expr} {F : EF} {p pos : Pos} (hg : Gl X "isinstance") (hm : X.mg "isinstance" = none) (h : cIsi r C es = some F) : SE X W (.Call (.Name "isinstance" p) es [] pos) F := by
  unfold cIsi at h
  split at h
  · rename_i a T p2
    split at h
    · rename_i t ht
      split at h
      · rename_i hc
        have c1 := Bool.and_eq_true_iff.mp hc
        have c2 := Bool.and_eq_true_iff.mp c1.1
        have c3 := Bool.and_eq_true_iff.mp c2.1
        obtain ⟨n1, n2, n3⟩ := plain_nm c2.2
        have e1 : (Str.ofString t == T) = true := List.find?_some (p := fun t => Str.ofString t == T) ht
        have e2 := eq_of_beq e1
        have hin : t ∈ asked := List.mem_of_find?_eq_some ht
        subst e2
        cases ha : r a with
        | none => rw [ha] at h; cases h
        | some f =>
          rw [ha] at h; cases h
          exact se_isi hg hm (gl_of M c3.1) (M.mdl.blt _ c3.2) (eq_of_beq (List.all_eq_true.mp asked_boot t hin)) hin n3 n1 c1.2 (hr _ _ ha)
      · cases h
    · cases h
  · cases h
theorem call_ok (M : Mt X C W k) {r : Expr → Option EF} (hr : ∀ e f, r e = some f → SE X W e f) {x : Str} {es : List Expr} {F : EF} {p pos : Pos} (h : cCall r C x es = some F) : SE X W (.Call (.Name x p) es [] pos) F := by
  unfold cCall at h
  split at h
  · rename_i hc
    have c1 := Bool.and_eq_true_iff.mp hc
    have c2 := Bool.and_eq_true_iff.mp c1.1
    have c3 := Bool.and_eq_true_iff.mp c2.1
    obtain ⟨n1, n2, n3⟩ := plain_nm c3.2
    have hg := gl_of M c3.1
    cases es with
    | nil => exact absurd c1.2 (by simp)
    | cons e es =>
      split at h
      · rename_i n G hf
        cases hm : mapO r (e :: es) with
        | none => rw [hm] at h; cases h
        | some fs =>
          rw [hm] at h; cases h
          exact se_call M hf hg n1 c2.2 (sa_of (mapO_pair hr hm) c2.2)
      · split at h
        · rename_i n G hf
          cases hm : mapO r (e :: es) with
          | none => rw [hm] at h; cases h
          | some fs =>
            rw [hm] at h; cases h
            exact se_make M hf hg n1 c2.2 (sa_of (mapO_pair hr hm) c2.2)
        split at h
        · rename_i hb
          have hmg := M.mdl.blt x hb
          split at h
          · rename_i hx
            subst hx
            exact isi_ok M hr hg hmg h
          · split at h
            · rename_i v g hbl
              obtain ⟨k1, k2, k3⟩ := blt_ok M.calm hbl
              cases hm : mapO r (e :: es) with
              | none => rw [hm] at h; cases h
              | some fs =>
                rw [hm] at h; cases h
                have sa := sa_of (mapO_pair hr hm) c2.2
                rcases k3 with ⟨id, rfl⟩ | ⟨T, rfl⟩
                · exact se_callB k1 hg hmg k2 n3 n1 c2.2 sa
                · exact se_callTy k1 hg hmg k2 n3 n1 c2.2 sa
            · cases h
        · cases h
  · cases h
theorem pair_len {α β : Type} {R : α → β → Prop} : ∀ {xs : List α} {ys : List β}, Paired R xs ys → xs.length = ys.length
  | [], [], .nil => rfl
  | x :: xs, y :: ys, .cons _ t => by rw [List.length_cons, List.length_cons, pair_len t]
theorem methO_ok (M : Mt X C W k) {r : Expr → Option EF} (hr : ∀ e f, r e = some f → SE X W e f) {o : Expr} {m : Str} {es : List Expr} {F : EF} {apos cpos : Pos} (h : cMethO r C o m es apos cpos = some F) : SE X W (.Call (.Attribute o m apos) es [] cpos) F := by
  unfold cMethO at h
  split at h
  · rename_i hc
    have c2 := Bool.and_eq_true_iff.mp hc
    have c3 := Bool.and_eq_true_iff.mp c2.1
    have c4 := Bool.and_eq_true_iff.mp c3.1
    split at h
    · rename_i f fs h1 h2
      cases h
      have pr := mapO_pair hr h2
      exact se_callM M (hr _ _ h1) (sa_of pr c4.2) (pair_len pr) c4.1 c4.2 c3.2 c2.2
    · cases h
  · cases h
theorem kdOf_ok (M : Mt X C W k) {e : Expr} {tb : List (List Nat × D)} (h : kdOf C e = some tb) : ∃ T p, e = .Name T p ∧ KdOk X.K X.w X.mg T tb ∧ Gl X T ∧ (T == ("__debug__" : Str)) = false := by
  unfold kdOf at h
  split at h
  · rename_i T p
    split at h
    · rename_i hc
      have c := Bool.and_eq_true_iff.mp hc
      exact ⟨T, p, rfl, M.mdl.kds T tb h, gl_of M c.1, (plain_nm c.2).1⟩
    · cases h
  · cases h
theorem cmp_ok' (hu : X.A.units + 64 < cLine) {op : CmpOp} {g : D → D → MH → Res D} (h : cmpD' op = some g) : OpR X (compareOp op) (rS2 X g) := by
  cases op <;> first
    | (cases h; exact op_inD hu)
    | (cases h; exact op_ninD hu)
    | exact cmp_ok hu h
theorem cmpD_calm {op : CmpOp} {g : D → D → MH → Res D} (h : cmpD op = some g) : ∀ d e I x I', g d e I ≠ .err x I' := by
  intro d e I x I' z
  cases op <;> cases h <;> first
    | (unfold eqD at z; split at z <;> cases z; done)
    | (unfold neD at z; split at z <;> cases z; done)
    | (unfold ltS at z; split at z <;> cases z; done)
    | (unfold leS at z; split at z <;> cases z; done)
    | (unfold cmpI at z; split at z <;> cases z; done)
    | (unfold isB at z; split at z <;> first | (cases z; done) | (split at z <;> cases z; done))
    | (unfold inB at z; split at z <;> first | (cases z; done) | (split at z <;> first | (cases z; done) | (split at z <;> cases z; done)))
theorem inDD_calm {neg : Bool} : ∀ d e I x I', inDD neg d e I ≠ .err x I' := by
  intro d e I x I' z
  unfold inDD at z
  split at z
  · split at z <;> cases z
  · cases neg
    · exact cmpD_calm (op := .In) rfl _ _ _ _ _ z
    · exact cmpD_calm (op := .NotIn) rfl _ _ _ _ _ z
theorem cmp_calm' {op : CmpOp} {g : D → D → MH → Res D} (h : cmpD' op = some g) : ∀ d e I x I', g d e I ≠ .err x I' := by
  cases op with
  | In => cases h; exact inDD_calm
  | NotIn => cases h; exact inDD_calm
  | Eq => exact cmpD_calm (op := .Eq) h
  | NotEq => exact cmpD_calm (op := .NotEq) h
  | Lt => exact cmpD_calm (op := .Lt) h
  | LtE => exact cmpD_calm (op := .LtE) h
  | Gt => exact cmpD_calm (op := .Gt) h
  | GtE => exact cmpD_calm (op := .GtE) h
  | Is => exact cmpD_calm (op := .Is) h
  | IsNot => exact cmpD_calm (op := .IsNot) h
theorem ixDD_calm : ∀ d e I x I', ixDD d e I ≠ .err x I' := by
  intro d e I x I' z
  unfold ixDD at z
  split at z
  · split at z
    · unfold optR at z; split at z <;> cases z
    · cases z
  · exact ix_calm _ _ _ _ _ z
theorem se_ixD (hu : X.A.units + 64 < cLine) {a b : Expr} {f h : EF} {pos : Pos} (hs : notSlice b = true) (ha : SE X W a f) (hb : SE X W b h) : SE X W (.Subscript a b pos) (bin2 ixDD f h) := by
  refine pe_weak (pe_ix (ix_okD hu) ha hb (plainIx hs)) fun σ H Q ⟨μ, ρ, I, rr, ok, p⟩ => ?_
  refine then_E rr ok p fun μ1 I1 H1 d v e1 rr1 ok1 rd p1 => ?_
  refine then_E rr1 ok1 p1 fun μ2 I2 H2 e u e2 rr2 ok2 re p2 => ?_
  exact use2 (σ := σ) ixDD_calm ok2 (RepV.ext e2 ok1 _ _ rd) re p2
theorem ccmp_ok (M : Mt X C W k) (hu : X.A.units + 64 < cLine) {r : Expr → Option EF} (hr : ∀ e f, r e = some f → SE X W e f) {a b : Expr} {op : CmpOp} {F : EF} {pos : Pos} (h : cCmp r C a op b = some F) : SE X W (.Compare a [op] [b] pos) F := by
  unfold cCmp at h
  split at h
  · rename_i tb hk
    split at hk
    · rename_i hop
      subst hop
      obtain ⟨T, p, rfl, h1, h2, h3⟩ := kdOf_ok M hk
      cases ha : r a with
      | none => rw [ha] at h; cases h
      | some f => rw [ha] at h; cases h; exact se_kdIn h1 h2 h3 (hr _ _ ha)
    · cases hk
  · split at h
    · rename_i hs
      split at h
      · rename_i h1 h2 h3; cases h; exact se_cmp (cmp_calm' h3) (cmp_ok' hu h3) hs (hr _ _ h1) (hr _ _ h2)
      · cases h
    · cases h
theorem ccmp_okT (M : Mt X C W k) (hu : X.A.units + 64 < cLine) {r : Expr → Option EF} (hr : ∀ e f, r e = some f → SE X W e f) {a b : Expr} {op : CmpOp} {F : EF} {pos : Pos} (h : cCmp r C a op b = some F) : ST X W (.Compare a [op] [b] pos) (boolE F) := by
  unfold cCmp at h
  split at h
  · rename_i tb hk
    split at hk
    · rename_i hop
      subst hop
      obtain ⟨T, p, rfl, h1, h2, h3⟩ := kdOf_ok M hk
      cases ha : r a with
      | none => rw [ha] at h; cases h
      | some f => rw [ha] at h; cases h; exact st_kdIn h1 h2 h3 (hr _ _ ha)
    · cases hk
  · split at h
    · rename_i hs
      split at h
      · rename_i h1 h2 h3; cases h; exact st_cmp (cmp_calm' h3) (cmp_ok' hu h3) hs (hr _ _ h1) (hr _ _ h2)
      · cases h
    · cases h
theorem cix_ok (M : Mt X C W k) (hu : X.A.units + 64 < cLine) {r : Expr → Option EF} (hr : ∀ e f, r e = some f → SE X W e f) {a b : Expr} {F : EF} {pos : Pos} (h : cIx r C a b = some F) : SE X W (.Subscript a b pos) F := by
  unfold cIx at h
  split at h
  · rename_i hs
    split at h
    · rename_i tb hk
      obtain ⟨T, p, rfl, h1, h2, h3⟩ := kdOf_ok M hk
      cases hb : r b with
      | none => rw [hb] at h; cases h
      | some f => rw [hb] at h; cases h; exact se_kdGet h1 h2 h3 hs (hr _ _ hb)
    · split at h
      · rename_i h1 h2; cases h; exact se_ixD hu hs (hr _ _ h1) (hr _ _ h2)
      · cases h
  · cases h
theorem mapO_id : ∀ {keys : List (Option Expr)} {ks : List Expr}, mapO id keys = some ks → keys = ks.map some
  | [], _, h => by cases h; rfl
  | k :: keys, _, h => by
    unfold mapO at h
    split at h
    · rename_i y ys h1 h2
      cases h
      rw [mapO_id h2]
      have : k = some y := h1
      rw [this]
      rfl
    · cases h
theorem prs_of : ∀ {ks vs : List Expr} {fs gs : List EF}, Paired (SE X W) ks fs → Paired (SE X W) vs gs → ks.length = vs.length → ∃ q, PRs X W ks vs (fs.zip gs) q
  | [], [], [], [], .nil, .nil, _ => ⟨[], trivial⟩
  | k :: ks, v :: vs, f :: fs, g :: gs, .cons h1 t1, .cons h2 t2, hl => by
    obtain ⟨q, hq⟩ := prs_of t1 t2 (by simpa using hl)
    exact ⟨(tE X W f, tE X W g) :: q, h1, h2, rfl, rfl, hq⟩
theorem cdict_ok {r : Expr → Option EF} (hr : ∀ e f, r e = some f → SE X W e f) {keys : List (Option Expr)} {vals : List Expr} {F : EF} {pos : Pos} (h : cDict r keys vals = some F) : SE X W (.Dict keys vals pos) F := by
  unfold cDict at h
  split at h
  · cases h; exact se_dict0
  · split at h
    · rename_i ks hk
      split at h
      · rename_i hc
        have c1 := Bool.and_eq_true_iff.mp hc
        have c2 := Bool.and_eq_true_iff.mp c1.1
        split at h
        · rename_i fs gs h1 h2
          cases h
          rw [mapO_id hk]
          have hl : ks.length = _ := of_decide_eq_true c2.1
          obtain ⟨q, hq⟩ := prs_of (mapO_pair hr h1) (mapO_pair hr h2) hl
          exact se_dict hq hl (fun z => by rw [z] at c2; exact absurd c2.2 (by simp)) (of_decide_eq_true c1.2)
        · cases h
      · cases h
    · cases h
theorem meth_ok {r : Expr → Option EF} (hr : ∀ e f, r e = some f → SE X W e f) {o : Expr} {m : Str} {es : List Expr} {F : EF} {apos cpos : Pos} (h : cMeth r o m es apos cpos = some F) : SE X W (.Call (.Attribute o m apos) es [] cpos) F := by
  unfold cMeth at h
  split at h
  · rename_i hc
    have c1 := Bool.and_eq_true_iff.mp hc
    have c2 := Bool.and_eq_true_iff.mp c1.1
    have c3 := Bool.and_eq_true_iff.mp c2.1
    have c4 := Bool.and_eq_true_iff.mp c3.1
    cases es with
    | nil => exact absurd c1.2 (by simp)
    | cons e es =>
      split at h
      · rename_i p g hmt
        split at h
        · rename_i f fs h1 h2
          cases h
          have sa := sa_of (mapO_pair hr h2) c4.2
          unfold mtOf at hmt
          repeat' (split at hmt)
          all_goals first
            | (cases hmt; done)
            | (rename_i e; subst e; cases hmt; first
                | exact se_mt PySem.F.plainAttrs_str PySem.F.slot_str_find PySem.F.type_str_find find_ok (fun _ _ _ _ _ a b c => ty_str a b c) (hr _ _ h1) sa c4.1 c4.2 c3.2 c2.2
                | exact se_mt PySem.F.plainAttrs_str PySem.F.slot_str_endswith PySem.F.type_str_endswith endswith_ok (fun _ _ _ _ _ a b c => ty_str a b c) (hr _ _ h1) sa c4.1 c4.2 c3.2 c2.2
                | exact se_mt PySem.F.plainAttrs_str PySem.F.slot_str_startswith PySem.F.type_str_startswith startswith_ok (fun _ _ _ _ _ a b c => ty_str a b c) (hr _ _ h1) sa c4.1 c4.2 c3.2 c2.2
                | exact se_mt PySem.F.plainAttrs_str PySem.F.slot_str_join PySem.F.type_str_join join_ok (fun _ _ _ _ _ a b c => ty_str a b c) (hr _ _ h1) sa c4.1 c4.2 c3.2 c2.2
                | exact se_mt PySem.F.plainAttrs_list PySem.F.slot_list_append PySem.F.type_list_append append_ok (fun _ _ _ _ _ a b c => ty_lst a b c) (hr _ _ h1) sa c4.1 c4.2 c3.2 c2.2
                | exact se_mt PySem.F.plainAttrs_list PySem.F.slot_list_extend PySem.F.type_list_extend extend_ok (fun _ _ _ _ _ a b c => ty_lst a b c) (hr _ _ h1) sa c4.1 c4.2 c3.2 c2.2)
        · cases h
      · cases h
  · cases h
theorem part_ok {r : Expr → Option EF} (hr : ∀ e f, r e = some f → SE X W e f) {o : Option Expr} {f : Option EF} (h : cPart r o = some f) : SO X W o f := by
  cases o with
  | none => cases h; exact so_none
  | some e =>
    unfold cPart at h
    dsimp only at h
    cases he : r e with
    | none => rw [he] at h; cases h
    | some g => rw [he] at h; cases h; exact so_some (hr _ _ he)
theorem cIt_ok (M : Mt X C W k) {r : Expr → Option EF} (hr : ∀ e f, r e = some f → SE X W e f) {tg e : Expr} {f : IF} (h : cIt r C e = some f) : SI X W tg e f ∧ notSet e = true := by
  have gen : ∀ e f, (r e).map seqI = some f → SI X W tg e f := fun e f h => by
    cases he : r e with
    | none => rw [he] at h; cases h
    | some g => rw [he] at h; cases h; exact si_seq (hr _ _ he)
  unfold cIt at h
  split at h
  · rename_i hs
    refine ⟨?_, hs⟩
    split at h
    · split at h
      · rename_i x p a q hx
        subst hx
        split at h
        · rename_i hc
          have c1 := Bool.and_eq_true_iff.mp hc
          have c2 := Bool.and_eq_true_iff.mp c1.1
          cases ha : r a with
          | none => rw [ha] at h; cases h
          | some g => rw [ha] at h; cases h; exact si_range1 (gl_of M c2.1) (M.mdl.blt _ c2.2) c1.2 (hr _ _ ha)
        · cases h
      · exact gen _ _ h
    · split at h
      · rename_i x p a b q hx
        subst hx
        split at h
        · rename_i hc
          have c0 := Bool.and_eq_true_iff.mp hc
          have c1 := Bool.and_eq_true_iff.mp c0.1
          have c2 := Bool.and_eq_true_iff.mp c1.1
          split at h
          · rename_i f1 g1 ha hb
            cases h
            exact si_range2 (gl_of M c2.1) (M.mdl.blt _ c2.2) c1.2 c0.2 (hr _ _ ha) (hr _ _ hb)
          · cases h
        · cases h
      · exact gen _ _ h
    · exact gen _ _ h
  · cases h
end
theorem bin_calm {op : Operator} {g : D → D → MH → Res D} (h : binD' op = some g) : ∀ d e I x I', g d e I ≠ .err x I' := by
  intro d e I x I' z
  cases op <;> first
    | (cases h; unfold addD at z; repeat' (split at z)); all_goals cases z
    | (cases h; unfold subD at z; repeat' (split at z)); all_goals cases z
    | (cases h; unfold mulSD mulD at z; repeat' (split at z)); all_goals cases z
    | (cases h; unfold fdivD at z; repeat' (split at z)); all_goals cases z
    | (cases h; unfold modD at z; repeat' (split at z)); all_goals cases z
    | (cases h; unfold powD at z; repeat' (split at z)); all_goals cases z
    | (cases h; unfold shlD at z; repeat' (split at z)); all_goals cases z
    | cases h
theorem cmp_calm {op : CmpOp} {g : D → D → MH → Res D} (h : cmpD op = some g) : ∀ d e I x I', g d e I ≠ .err x I' := by
  intro d e I x I' z
  cases op <;> (cases h; first
    | (unfold eqD at z; repeat' (split at z)); all_goals cases z
    | (unfold neD at z; repeat' (split at z)); all_goals cases z
    | (unfold ltS at z; repeat' (split at z)); all_goals cases z
    | (unfold leS at z; repeat' (split at z)); all_goals cases z
    | (unfold cmpI at z; repeat' (split at z)); all_goals cases z
    | (unfold isB at z; repeat' (split at z)); all_goals cases z
    | (unfold inB at z; repeat' (split at z)); all_goals cases z)

/-! comprehensions -/
section
variable {X : Cx} {C : CC} {W : WX} {k : Nat}
theorem blk_mt (M : Mt X C W k) {scope : Scope} (s : Shared) (H : Hp) (Cl : Addr) (cl : List (Str × Addr)) (fp : List Addr) : Mt (X.blk s H scope (compEnvC scope cl Cl X.env) fp) (blkCC C scope) (fun _ _ _ _ => False) k where
  sc := by
    show relS scope X.env.scope = relS scope C.sc
    rw [M.sc]
  N := M.N
  nd := M.nd
  calm := M.calm
  room := M.room
  tk := fun _ _ ⟨_, _, _, _, _, _, _, _, _, _, _, _, _, _, _, _, w⟩ => w.elim
  isDef := fun h => by cases h
  mdl := ⟨M.mdl.fns, M.mdl.cst, M.mdl.blt, M.mdl.cls, M.mdl.mth, M.mdl.mks, M.mdl.kds⟩
theorem own_ix {tg : Expr} {own : List (Str × Nat)} (h : ownOf C tg = some own) : ∃ xs, tgNames tg = some xs ∧ Paired (fun x (p : Str × Nat) => p.1 = x ∧ idx x C.N = some p.2) xs own := by
  unfold ownOf at h
  cases hx : tgNames tg with
  | none => rw [hx] at h; cases h
  | some xs =>
    rw [hx] at h
    refine ⟨xs, rfl, mapO_pair (f := fun x => (idx x C.N).map fun i => (x, i)) (fun x p hp => ?_) h⟩
    cases hi : idx x C.N with
    | none => rw [hi] at hp; cases hp
    | some i => rw [hi] at hp; cases hp; exact ⟨rfl, rfl⟩
theorem names_form : ∀ {es : List Expr} {xs : List Str}, mapO isName es = some xs → Paired (fun e x => ∃ p, e = Expr.Name x p) es xs := fun h => mapO_pair (f := isName) (fun e x he => by
  cases e <;> first | (cases he; exact ⟨_, rfl⟩) | cases he) h
theorem blk_targets {X' : Cx} (hN : X'.N = C.N) (hnd : C.N.Nodup) (hc : X'.calm = true) : ∀ {es : List Expr} {xs : List Str} {own : List (Str × Nat)}, Paired (fun e x => ∃ p, e = Expr.Name x p) es xs → Paired (fun x (p : Str × Nat) => p.1 = x ∧ idx x C.N = some p.2) xs own →
    (own.all fun p => X'.env.scope.names.lookup p.1 == some .local) = true → PGs X' es (gNames (own.map (·.2))) ∧ (assignEach es X'.env).length = own.length ∧ (assignEach es X'.env).findIdx? (·.1) = none
  | [], [], [], .nil, .nil, _ => ⟨pgs_nil, rfl, rfl⟩
  | e :: es, x :: xs, p :: own, .cons h1 t1, .cons h2 t2, h => by
    obtain ⟨pp, rfl⟩ := h1
    obtain ⟨rfl, hi⟩ := h2
    rw [List.all_cons] at h
    have h' := Bool.and_eq_true_iff.mp h
    have hl := eq_of_beq h'.1
    obtain ⟨q1, q2, q3⟩ := blk_targets hN hnd hc t1 t2 h'.2
    refine ⟨pgs_cons (pg_name (by rw [hN]; exact hnd) (by rw [hN]; exact idx_get hi) (.inl hl) (.inr hl)) q1, ?_, ?_⟩
    · show (assignEach es X'.env).length + 1 = own.length + 1
      rw [q2]
    · show List.findIdx? (·.1) ((false, assign (.Name p.1 pp) X'.env) :: assignEach es X'.env) = none
      rw [List.findIdx?_cons, q3]
      rfl
/-- what a comprehension's parts are good for -/
structure CompOk (X : Cx) (W : WX) (elt : Expr) (gens : List Comprehension) (scope : Scope) (p : CompParts) : Prop where
  ex : ∃ tg iter ifs g, gens = [⟨tg, iter, ifs, 0⟩] ∧ SI X W tg iter p.it ∧ BlkOk X.N X.env.scope scope p.own ∧ GOK X g p.t (p.own.map (·.2)) ∧
    (∀ (s : Shared) (H : Hp) (C : Addr) (cl : List (Str × Addr)) (fp : List Addr), PG (X.blk s H scope (compEnvC scope cl C X.env) fp) tg g) ∧
    (∀ (s : Shared) (H : Hp) (C : Addr) (cl : List (Str × Addr)) (fp : List Addr), PTs (X.blk s H scope (compEnvC scope cl C X.env) fp) ifs (tT X (fun _ _ _ _ => False) p.ttf)) ∧
    (∀ (s : Shared) (H : Hp) (C : Addr) (cl : List (Str × Addr)) (fp : List Addr), PE (X.blk s H scope (compEnvC scope cl C X.env) fp) elt (tE X (fun _ _ _ _ => False) p.te)) ∧ notSet iter = true
theorem comp_ok (M : Mt X C W k) {r : CC → Expr → Option EF} {rt : CC → Expr → Option TF} (hr : ∀ X C W k, Mt X C W k → ∀ e f, r C e = some f → SE X W e f) (hrt : ∀ X C W k, Mt X C W k → ∀ e f, rt C e = some f → ST X W e f)
    {elt : Expr} {gens : List Comprehension} {scope : Scope} {p : CompParts} (h : cComp r rt C elt gens scope = some p) : CompOk X W elt gens scope p := by
  unfold cComp at h
  split at h
  · rename_i tg iter ifs asy
    split at h
    · rename_i hc
      have c1 := Bool.and_eq_true_iff.mp hc
      have ea : asy = 0 := of_decide_eq_true c1.1
      subst ea
      split at h
      · rename_i own ho
        split at h
        · rename_i hc2
          have c2 := Bool.and_eq_true_iff.mp hc2
          split at h
          · rename_i it te hit hte
            have okb : BlkOk X.N X.env.scope scope own := by rw [M.N, M.sc]; exact blkOk_by c2.1
            have si := (cIt_ok M (hr X C W k M) (tg := tg) hit).1
            obtain ⟨xs, hx, hp⟩ := own_ix ho
            have loc : ∀ (s : Shared) (H : Hp) (Cl : Addr) (cl : List (Str × Addr)) (fp : List Addr), (own.all fun p => (X.blk s H scope (compEnvC scope cl Cl X.env) fp).env.scope.names.lookup p.1 == some .local) = true := fun s H Cl cl fp => by
              have e : (X.blk s H scope (compEnvC scope cl Cl X.env) fp).env.scope = relS scope C.sc := (blk_mt M s H Cl cl fp).sc
              rw [e]
              exact c2.2
            have elt_ok : ∀ (s : Shared) (H : Hp) (Cl : Addr) (cl : List (Str × Addr)) (fp : List Addr), PE (X.blk s H scope (compEnvC scope cl Cl X.env) fp) elt (tE X (fun _ _ _ _ => False) te) := fun s H Cl cl fp => hr _ _ _ _ (blk_mt M s H Cl cl fp) _ _ hte
            -- the target
            have tgt : ∃ g, GOK X g (tgT tg (own.map (·.2))) (own.map (·.2)) ∧ ∀ (s : Shared) (H : Hp) (Cl : Addr) (cl : List (Str × Addr)) (fp : List Addr), PG (X.blk s H scope (compEnvC scope cl Cl X.env) fp) tg g := by
              unfold tgNames at hx
              split at hx
              · rename_i x pp
                cases hx
                cases hp with
                | cons h1 t1 =>
                  cases t1
                  rename_i q
                  obtain ⟨rfl, hi⟩ := h1
                  refine ⟨gName q.2, gok_name (by simp), fun s H Cl cl fp => ?_⟩
                  have l := loc s H Cl cl fp
                  rw [List.all_cons] at l
                  have l' := eq_of_beq (Bool.and_eq_true_iff.mp l).1
                  exact pg_name (by show X.N.Nodup; rw [M.N]; exact M.nd) (by show X.N[q.2]? = _; rw [M.N]; exact idx_get hi) (.inl l') (.inr l')
              · rename_i es nn pp
                refine ⟨gTup X.K (own.map (·.2)).length (gNames (own.map (·.2))), gok_tup fun i hi => hi, fun s H Cl cl fp => ?_⟩
                obtain ⟨q1, q2, q3⟩ := blk_targets (C := C) (X' := X.blk s H scope (compEnvC scope cl Cl X.env) fp) M.N M.nd M.calm (names_form hx) hp (loc s H Cl cl fp)
                exact pg_tup (X := X.blk s H scope (compEnvC scope cl Cl X.env) fp) M.calm q1 (by rw [q2, List.length_map]) q3
              · cases hx
            obtain ⟨g, hgo, hg⟩ := tgt
            split at h
            · cases h
              exact ⟨tg, iter, [], g, rfl, si, okb, hgo, hg, fun s H Cl cl fp => ⟨fun pins s' σ H' Q I q => pts_nil.run pins s' σ H' Q I (by
                obtain ⟨μ, ρ, I', rr, ok, p⟩ := q
                exact p μ H' Ext.refl ok)⟩, elt_ok, c1.2⟩
            · rename_i c
              cases hcc : rt (blkCC C scope) c with
              | none => rw [hcc] at h; cases h
              | some ttf =>
                rw [hcc] at h; cases h
                exact ⟨tg, iter, [c], g, rfl, si, okb, hgo, hg, fun s H Cl cl fp => pts_one (hrt _ _ _ _ (blk_mt M s H Cl cl fp) _ _ hcc), elt_ok, c1.2⟩
            · cases h
          · cases h
        · cases h
      · cases h
    · cases h
  · cases h
end
/-- THE READING IS RIGHT -/
theorem cET_ok : ∀ n : Nat, (∀ X C W k, Mt X C W k → ∀ e f, cE n C e = some f → SE X W e f) ∧ (∀ X C W k, Mt X C W k → ∀ e f, cT n C e = some f → ST X W e f)
  | 0 => ⟨fun X C W k M e f h => (by unfold cE at h; cases h), fun X C W k M e f h => (by unfold cT at h; cases h)⟩
  | n + 1 => by
    obtain ⟨ihE, ihT⟩ := cET_ok n
    refine ⟨fun X C W k M e f h => ?_, fun X C W k M e f h => ?_⟩
    · have hr := ihE X C W k M
      have ht := ihT X C W k M
      have hu : X.A.units + 64 < cLine := M.room.units
      unfold cE at h
      split at h
      · exact name_ok M h
      · exact const_ok h
      · split at h
        · rename_i h1 h2 h3; cases h; exact se_bin (bin_calm h3) (bin_ok' h3) (hr _ _ h1) (hr _ _ h2)
        · cases h
      · rename_i a p
        cases he : cE n C a with
        | none => rw [he] at h; cases h
        | some g => rw [he] at h; cases h; exact se_not (hr _ _ he)
      · rename_i a p
        cases he : cE n C a with
        | none => rw [he] at h; cases h
        | some g => rw [he] at h; cases h; exact se_neg (hr _ _ he)
      · rename_i op vs p
        cases hm : mapO (cE n C) vs with
        | none => rw [hm] at h; cases h
        | some fs => rw [hm] at h; exact foldE_ok (mapO_pair hr hm) h
      · exact ccmp_ok M hu hr h
      · split at h
        · rename_i hs
          split at h
          · rename_i h1 h2 h3 h4 h5; cases h; exact se_chain (cmp_calm h4) (cmp_calm h5) (cmp_ok hu h4) (cmp_ok hu h5) hs (hr _ _ h1) (hr _ _ h2) (hr _ _ h3)
          · cases h
        · cases h
      · split at h
        · rename_i h1 h2 h3; cases h; exact se_if (ht _ _ h1) (hr _ _ h2) (hr _ _ h3)
        · cases h
      · split at h
        · rename_i es j p hs
          cases hm : mapO (cE n C) es with
          | none => rw [hm] at h; cases h
          | some fs => rw [hm] at h; cases h; exact se_tup (sa_of (mapO_pair hr hm) hs)
        · cases h
      · split at h
        · rename_i es p hs
          cases hm : mapO (cE n C) es with
          | none => rw [hm] at h; cases h
          | some fs => rw [hm] at h; cases h; exact se_lst (sa_of (mapO_pair hr hm) hs)
        · cases h
      · split at h
        · rename_i h1 h2 h3; cases h; exact se_slice (hr _ _ h1) (part_ok hr h2) (part_ok hr h3)
        · cases h
      · exact cix_ok M hu hr h
      · split at h
        · rename_i o m p hb
          cases he : cE n C o with
          | none => rw [he] at h; cases h
          | some g => rw [he] at h; cases h; exact se_attr (fun c as z => M.mdl.cls c as z) hb (hr _ _ he)
        · cases h
      · exact cdict_ok hr h
      · exact call_ok M hr h
      · split at h
        · exact methO_ok M hr h
        · exact meth_ok hr h
      · rename_i elt gens scope p
        cases hc : cComp (cE n) (cT n) C elt gens scope with
        | none => rw [hc] at h; cases h
        | some q =>
          rw [hc] at h; cases h
          obtain ⟨tg, iter, ifs, g, rfl, si, okb, hgo, hg, hts, hel, hs⟩ := (comp_ok M ihE ihT hc).ex
          exact se_lc M.calm (by rw [M.N]; exact M.nd) si okb hgo hg hts hel hs
      · cases h
    · have hr := ihE X C W k M
      have ht := ihT X C W k M
      have hu : X.A.units + 64 < cLine := M.room.units
      unfold cT at h
      split at h
      · rename_i a p
        cases he : cT n C a with
        | none => rw [he] at h; cases h
        | some g => rw [he] at h; cases h; exact st_not (ht _ _ he)
      · rename_i op vs p
        cases hm : mapO (cT n C) vs with
        | none => rw [hm] at h; cases h
        | some fs => rw [hm] at h; exact (foldT_ok (mapO_pair ht hm) h).pt
      · split at h
        · rename_i op b
          cases hc : cCmp (cE n C) C _ op b with
          | none => rw [hc] at h; cases h
          | some F' => rw [hc] at h; cases h; exact ccmp_okT M hu hr hc
        · split at h
          · rename_i hs
            split at h
            · rename_i h1 h2 h3 h4 h5; cases h; exact st_chain (cmp_calm h4) (cmp_calm h5) (cmp_ok hu h4) (cmp_ok hu h5) hs (hr _ _ h1) (hr _ _ h2) (hr _ _ h3)
            · cases h
          · cases h
        · cases h
      · split at h
        · rename_i hp
          cases he : cE n C e with
          | none => rw [he] at h; cases h
          | some g => rw [he] at h; cases h; exact st_tru (hr _ _ he) hp
        · cases h
end MP
/-! MPA: statements and defs: from the written text to its reading by trees -/
namespace MP
open PySem PySem.Spec L2

def raiseS (x : Str) (fld : Option Str) (f : EF) : SF := fun ρ I => (f ρ I).bindS fun d I1 => .err ⟨x, fld.map fun n => (n, d)⟩ I1
/-- raise X(e), X a class of the text -/
def RaiseOk (P : Program) (w : World) (K : PySem.W.Frag) (mg : Str → Option Value) (base : Heap) (k : Nat) (x : Str) (fld : Option Str) : Prop :=
  ∀ (X : Cx) (W : WX) (e : Expr) (f : EF) (p pos pos2 : Pos), X.prog = P → X.w = w → X.K = K → X.mg = mg → X.base = base → Room k X.A → X.calm = true → L2N.Takes X W → Flat W → Gl X x → notStar e = true → SE X W e f →
    SS X W (.Raise (some (.Call (.Name x p) [e] [] pos)) none pos2) (raiseS x fld f)
structure MtS (X : Cx) (C : CC) (W : WX) (k : Nat) : Prop extends Mt X C W k where
  flat : Flat W
  own : PassesOwn (model X.prog X.w) X.A X.env X.xe
  raises : ∀ x fld, C.exs.lookup x = some fld → RaiseOk X.prog X.w X.K X.mg X.base k x fld

def isLocal (C : CC) (x : Str) : Bool := C.sc.names.lookup x == some .local || (C.sc.names.lookup x == some .cell && C.isDef)
def slot (C : CC) (x : Str) : Option Nat := if isLocal C x then idx x C.N else none
def notTup : Expr → Bool
  | .Tuple .. => false
  | _ => true
/-- a comprehension stored at once by the name on its line -/
def swB (C : CC) (x : Str) (py p : Pos) (scope : Scope) : Bool := (C.sc.kind == .function) && (C.sc.names.lookup x == some .local) && (py.line == p.line) && !(scope.names.any fun (n, k) => n == x && (k == .local || k == .cell))
noncomputable def cAsgName (n : Nat) (C : CC) (x : Str) (py : Pos) (e : Expr) : Option SF := match slot C x with
  | some i => (match e with
    | .ListComp elt gens scope p => if swB C x py p scope then (match cComp (cE n) (cT n) C elt gens scope with
        | some q => some (asgS (if C.mts.contains x then lcM q.it (q.own.map (·.2)) q.t q.ttf q.te else lcE q.it (q.own.map (·.2)) q.t q.ttf q.te) (nameT i))
        | none => none) else none
    | .List es p => if C.mts.contains x then (if es.all notStar then (mapO (cE n C) es).map fun fs => asgS (lstM fs) (nameT i) else none) else (cE n C (.List es p)).map fun f => asgS f (nameT i)
    | e => if notComp e then (cE n C e).map fun f => asgS f (nameT i) else none)
  | none => none
mutual
noncomputable def cS : Nat → CC → Stmt → Option SF
  | 0, _, _ => none
  | n + 1, C, st => match st with
    | .Assign [.Name x py] e _ => cAsgName n C x py e
    | .Assign [.Tuple es _ _] e _ => if notTup e && notComp e then (match mapO isName es, cE n C e with
      | some xs, some f => (mapO (slot C) xs).map fun is => asgS f (tupT is)
      | _, _ => none) else none
    | .Assign [.Subscript o i _] e _ => if notSlice i && notComp e then (match cE n C o, cE n C i, cE n C e with
      | some fo, some fi, some f => some (asgS f (subT fo fi))
      | _, _, _ => none) else none
    | .Assign [.Attribute o m _] e _ => if notComp e then (match cE n C o, cE n C e with
      | some fo, some f => some (asgS f (fldT C.cls m fo))
      | _, _ => none) else none
    | .AugAssign (.Attribute o m _) .Add e _ => (match cE n C o, cE n C e with
      | some fo, some f => some (augF C.cls m addJ fo f)
      | _, _ => none)
    | .AugAssign (.Name x _) .Add e _ => if plainNm x then (match slot C x, cE n C e with
      | some i, some f => some (augS i addI f)
      | _, _ => none) else none
    | .Expr e _ => if notComp e then (cE n C e).map exprS else none
    | .Return (some e) _ => (cE n C e).map retS
    | .Return none _ => some fun _ I => .ret .non I
    | .Pass _ => some nxS
    | .Break _ => some fun ρ I => .brk ρ I
    | .Continue _ => some fun ρ I => .cnt ρ I
    | .If c a b _ => match cT n C c, cSs n C a, cSs n C b with
      | some t, some f, some g => some (ifS t f g)
      | _, _, _ => none
    | .While c body [] _ => match cT n C c, cSs n C body with
      | some t, some f => some (whileS t f)
      | _, _ => none
    | .For tg iter body [] _ => (match cIt (cE n C) C iter, cSs n C body with
      | some it, some f => (match tg with
        | .Name x _ => (slot C x).map fun i => forS it (nameT i) f
        | .Tuple es _ _ => ((mapO isName es).bind fun xs => mapO (slot C) xs).map fun is => forS it (tupT is) f
        | _ => none)
      | _, _ => none)
    | .Raise (some (.Call (.Name x _) [e] [] _)) none _ => if isGl C x && notStar e then (match C.exs.lookup x, cE n C e with
      | some fld, some f => some (raiseS x fld f)
      | _, _ => none) else none
    | _ => none
noncomputable def cSs : Nat → CC → List Stmt → Option SF
  | 0, _, _ => none
  | _ + 1, _, [] => some nxS
  | n + 1, C, st :: sts => match cS n C st, cSs n C sts with
    | some f, some g => some (seqS f g)
    | _, _ => none
end

section
variable {X : Cx} {C : CC} {W : WX} {k : Nat}
theorem slot_ok (M : Mt X C W k) {x : Str} {i : Nat} (h : slot C x = some i) : X.N[i]? = some x ∧ Loc X.env.scope x ∧ (X.fn x = true ∨ X.env.scope.names.lookup x = some .local) := by
  unfold slot at h
  split at h
  · rename_i hl
    refine ⟨by rw [M.N]; exact idx_get h, ?_⟩
    unfold isLocal at hl
    rw [M.sc]
    rcases Bool.or_eq_true_iff.mp hl with e | e
    · exact ⟨.inl (eq_of_beq e), .inr (eq_of_beq e)⟩
    · have e' := Bool.and_eq_true_iff.mp e
      exact ⟨.inr (eq_of_beq e'.1), .inl (M.isDef e'.2 x)⟩
  · cases h
theorem ndX (M : Mt X C W k) : X.N.Nodup := by rw [M.N]; exact M.nd
theorem names_ok (M : Mt X C W k) : ∀ {es : List Expr} {xs : List Str} {is : List Nat}, mapO isName es = some xs → mapO (slot C) xs = some is → NamesOk X es is := fun {es xs is} h1 h2 => by
  have p1 := names_form h1
  have p2 := mapO_pair (R := fun x i => slot C x = some i) (fun _ _ z => z) h2
  clear h1 h2
  induction p1 generalizing is with
  | nil => cases p2; exact .nil
  | cons h t ih =>
    cases p2 with
    | cons g t2 =>
      obtain ⟨p, rfl⟩ := h
      obtain ⟨a, b, c⟩ := slot_ok M g
      exact .cons a b c (ih t2)
theorem swaps_lc {elt : Expr} {gs : List Comprehension} {scope : Scope} {p py : Pos} {y : Str} {l : Nat} (M : Mt X C W k) (h : swB C y py p scope = true) : swapsWith (.ListComp elt gs scope p) (some (.Name y py)) l X.env = pure true ∧ X.env.scope.names.lookup y = some .local := by
  unfold swB at h
  have h1 := Bool.and_eq_true_iff.mp h
  have h2 := Bool.and_eq_true_iff.mp h1.1
  have h3 := Bool.and_eq_true_iff.mp h2.1
  have hl : X.env.scope.names.lookup y = some .local := by rw [M.sc]; exact eq_of_beq h3.2
  refine ⟨sw_true (by rw [M.sc]; exact eq_of_beq h3.1) hl h2.2 ?_, hl⟩
  simpa using h1.2
theorem tup_nx {is : List Nat} {d : D} {ρ : En} {I : MH} : (∃ ρ' I', tupT is d ρ I = .nx ρ' I') ∨ (∃ x I', tupT is d ρ I = .err x I') ∨ tupT is d ρ I = .stuck := by
  have key : ∀ (is : List Nat) (ds : List D) (ρ : En), (∃ ρ' I', namesT is ds ρ I = .nx ρ' I') ∨ namesT is ds ρ I = .stuck := by
    intro is
    induction is with
    | nil => intro ds ρ; cases ds with
      | nil => exact .inl ⟨_, _, rfl⟩
      | cons => exact .inr rfl
    | cons i is ih => intro ds ρ; cases ds with
      | nil => exact .inr rfl
      | cons d ds => exact ih ds _
  unfold tupT
  split
  · rcases key is _ ρ with h | h
    · exact .inl h
    · exact .inr (.inr h)
  · exact .inr (.inr rfl)
theorem sub_nx {fo fi : EF} {d : D} {ρ : En} {I : MH} : (∃ ρ' I', subT fo fi d ρ I = .nx ρ' I') ∨ (∃ x I', subT fo fi d ρ I = .err x I') ∨ subT fo fi d ρ I = .stuck := by
  unfold subT
  cases h1 : fo ρ I with
  | ok o I1 =>
    cases h2 : fi ρ I1 with
    | ok i I2 =>
      cases h3 : setIx o i d I2 with
      | ok u I3 => exact .inl ⟨_, _, by unfold Res.bindS; dsimp only; rw [h2]; dsimp only; rw [h3]⟩
      | err x I3 => exact .inr (.inl ⟨_, _, by unfold Res.bindS; dsimp only; rw [h2]; dsimp only; rw [h3]⟩)
      | stuck => exact .inr (.inr (by unfold Res.bindS; dsimp only; rw [h2]; dsimp only; rw [h3]))
    | err x I2 => exact .inr (.inl ⟨_, _, by unfold Res.bindS; dsimp only; rw [h2]⟩)
    | stuck => exact .inr (.inr (by unfold Res.bindS; dsimp only; rw [h2]))
  | err x I1 => exact .inr (.inl ⟨_, _, rfl⟩)
  | stuck => exact .inr (.inr rfl)
theorem asg_name_ok (M : MtS X C W k) {n : Nat} {x : Str} {py pos : Pos} {e : Expr} {F : SF} (h : cAsgName n C x py e = some F) : SS X W (.Assign [.Name x py] e pos) F := by
  have hE := (cET_ok n).1
  have hT := (cET_ok n).2
  have hr := hE X C W k M.toMt
  unfold cAsgName at h
  split at h
  · rename_i i hi
    obtain ⟨h1, h2, h3⟩ := slot_ok M.toMt hi
    split at h
    · rename_i elt gens scope p
      split at h
      · rename_i hsw
        obtain ⟨s1, s2⟩ := swaps_lc (l := pos.line) M.toMt (elt := elt) (gs := gens) hsw
        split at h
        · rename_i q hq
          cases h
          obtain ⟨tg, iter, ifs, g, rfl, si, okb, hgo, hg, hts, hel, hs⟩ := (comp_ok M.toMt hE hT hq).ex
          refine ss_setLc M.flat M.calm (ndX M.toMt) h1 s2 s1 si okb hg hts hel hs ?_
          split
          · exact fun σ H Q z => lc_readM hgo (fun _ _ _ z => z) (fun _ _ _ z => z) σ H Q z
          · exact fun σ H Q z => lc_read hgo (fun _ _ _ z => z) (fun _ _ _ z => z) σ H Q z
        · cases h
      · cases h
    · rename_i es p
      split at h
      · split at h
        · rename_i hs
          cases hm : mapO (cE n C) es with
          | none => rw [hm] at h; cases h
          | some fs => rw [hm] at h; cases h; exact ss_set M.flat (ndX M.toMt) h1 h2 h3 rfl (se_lstM (sa_of (mapO_pair hr hm) hs))
        · cases h
      · cases he : cE n C (.List es p) with
        | none => rw [he] at h; cases h
        | some f => rw [he] at h; cases h; exact ss_set M.flat (ndX M.toMt) h1 h2 h3 rfl (hr _ _ he)
    · split at h
      · rename_i hn
        cases he : cE n C e with
        | none => rw [he] at h; cases h
        | some f => rw [he] at h; cases h; exact ss_set M.flat (ndX M.toMt) h1 h2 h3 hn (hr _ _ he)
      · cases h
  · cases h
theorem swap_none {tg e : Expr} {env : Env} (h : notTup e = true) : swappedStores [tg] e env = pure none := by
  unfold swappedStores
  cases e <;> first
    | (cases h; done)
    | (cases tg <;> rfl)
/-- THE STATEMENTS' READING IS RIGHT -/
theorem cSS_ok : ∀ n : Nat, (∀ X C W k, MtS X C W k → ∀ st f, cS n C st = some f → SS X W st f) ∧ (∀ X C W k, MtS X C W k → ∀ st f, cSs n C st = some f → SSs X W st f)
  | 0 => ⟨fun X C W k M e f h => (by unfold cS at h; cases h), fun X C W k M e f h => (by unfold cSs at h; cases h)⟩
  | n + 1 => by
    obtain ⟨ihS, ihB⟩ := cSS_ok n
    refine ⟨fun X C W k M st F h => ?_, fun X C W k M sts F h => ?_⟩
    · have hr := (cET_ok n).1 X C W k M.toMt
      have ht := (cET_ok n).2 X C W k M.toMt
      have hb := ihB X C W k M
      unfold cS at h
      split at h
      · exact asg_name_ok M h
      · split at h
        · rename_i hc
          have c := Bool.and_eq_true_iff.mp hc
          split at h
          · rename_i xs f hx he
            cases hm : mapO (slot C) xs with
            | none => rw [hm] at h; cases h
            | some is =>
              rw [hm] at h; cases h
              exact ss_asg M.flat c.2 (swap_none c.1) rfl (hr _ _ he) (sg_tup M.calm (ndX M.toMt) (names_ok M.toMt hx hm)) fun d ρ I => tup_nx
          · cases h
        · cases h
      · split at h
        · rename_i hc
          have c := Bool.and_eq_true_iff.mp hc
          split at h
          · rename_i fo fi f h1 h2 h3
            cases h
            have hsw : ∀ (o i e : Expr) (p : Pos), swappedStores [.Subscript o i p] e X.env = pure none := fun o i e p => by unfold swappedStores; cases e <;> rfl
            exact ss_asg M.flat c.2 (hsw _ _ _ _) rfl (hr _ _ h3) (sg_sub M.flat c.1 (hr _ _ h1) (hr _ _ h2)) fun d ρ I => sub_nx
          · cases h
        · cases h
      · split at h
        · rename_i hc
          split at h
          · rename_i fo f h1 h2
            cases h
            exact ss_setA M.flat (fun c as z => M.mdl.cls c as z) (noSwap hc) (hr _ _ h1) (hr _ _ h2)
          · cases h
        · cases h
      · split at h
        · rename_i fo f h1 h2
          cases h
          exact ss_augA M.flat (fun c as z => M.mdl.cls c as z) (hr _ _ h1) (hr _ _ h2)
        · cases h
      · split at h
        · rename_i hp
          obtain ⟨n1, n2, n3⟩ := plain_nm hp
          split at h
          · rename_i i f hi he
            cases h
            obtain ⟨h1, h2, h3⟩ := slot_ok M.toMt hi
            exact ss_aug M.flat (ndX M.toMt) h1 h2 h3 (hr _ _ he) n1 n2
          · cases h
        · cases h
      · rename_i e p
        split at h
        · rename_i hn
          cases he : cE n C e with
          | none => rw [he] at h; cases h
          | some f => rw [he] at h; cases h; exact ss_expr M.flat hn (hr _ _ he)
        · cases h
      · rename_i e p
        cases he : cE n C e with
        | none => rw [he] at h; cases h
        | some f => rw [he] at h; cases h; exact ss_ret M.flat (hr _ _ he)
      · cases h; exact ss_retN
      · cases h; exact ss_pass
      · cases h; exact ss_break
      · cases h; exact ss_cont
      · split at h
        · rename_i h1 h2 h3; cases h; exact ss_if M.flat (ht _ _ h1) (hb _ _ h2) (hb _ _ h3)
        · cases h
      · split at h
        · rename_i h1 h2; cases h; exact ss_while M.flat M.own (ht _ _ h1) (hb _ _ h2)
        · cases h
      · split at h
        · rename_i it f h1 h2
          split at h
          · rename_i x p
            obtain ⟨si, hs⟩ := cIt_ok M.toMt hr (tg := .Name x p) h1
            cases hi : slot C x with
            | none => rw [hi] at h; cases h
            | some i =>
              rw [hi] at h; cases h
              obtain ⟨g1, g2, g3⟩ := slot_ok M.toMt hi
              exact ss_for M.flat M.own M.calm si (sg_name (ndX M.toMt) g1 g2 g3) (hb _ _ h2) hs
          · rename_i es j p
            obtain ⟨si, hs⟩ := cIt_ok M.toMt hr (tg := .Tuple es j p) h1
            cases hx : mapO isName es with
            | none => rw [hx] at h; cases h
            | some xs =>
              rw [hx] at h
              cases hi : mapO (slot C) xs with
              | none =>
                have h' : Option.map (fun is => forS it (tupT is) f) (mapO (slot C) xs) = some F := h
                rw [hi] at h'; cases h'
              | some is =>
                have h' : Option.map (fun is => forS it (tupT is) f) (mapO (slot C) xs) = some F := h
                rw [hi] at h'; cases h'
                exact ss_for M.flat M.own M.calm si (sg_tup M.calm (ndX M.toMt) (names_ok M.toMt hx hi)) (hb _ _ h2) hs
          · cases h
        · cases h
      · split at h
        · rename_i hc
          have c := Bool.and_eq_true_iff.mp hc
          split at h
          · rename_i fld f h1 h2
            cases h
            exact M.raises _ _ h1 X W _ _ _ _ _ rfl rfl rfl rfl rfl M.room M.calm M.tk M.flat (gl_of M.toMt c.1) c.2 (hr _ _ h2)
          · cases h
        · cases h
      · cases h
    · cases sts with
      | nil => unfold cSs at h; cases h; exact ss_nil
      | cons st sts =>
        unfold cSs at h
        split at h
        · rename_i h1 h2; cases h; exact ss_cons (ihS X C W k M _ _ h1) (ihB X C W k M _ _ h2)
        · cases h
end

/-! ### a def -/
noncomputable def runDef (slots : Nat) (body : SF) : FF := fun ds I => match body (ds.map some ++ List.replicate (slots - ds.length) none) I with
  | .ret d I' => fin I d I'
  | .nx _ I' => .ok .non (trim I .non I')
  | .err x I' => .err x (trim I ((x.fld.map (·.2)).getD .non) I')
  | _ => .stuck
def defOk (N ps : List Str) (sc : Scope) : Bool := (match sc.kind with | .function => true | _ => false) && !sc.isCoroutine && !sc.isGenerator && decide N.Nodup && decide (N.take ps.length = ps) && (ps.all fun x => sc.names.lookup x == some .local || sc.names.lookup x == some .cell) && (sc.names.all fun y => decide (y.2 ≠ .free))
theorem scope_ok {N ps : List Str} {sc : Scope} (h : defOk N ps sc = true) : FnScope N ps sc := by
  unfold defOk at h
  have a1 := Bool.and_eq_true_iff.mp h
  have a2 := Bool.and_eq_true_iff.mp a1.1
  have a3 := Bool.and_eq_true_iff.mp a2.1
  have a4 := Bool.and_eq_true_iff.mp a3.1
  have a5 := Bool.and_eq_true_iff.mp a4.1
  have a6 := Bool.and_eq_true_iff.mp a5.1
  refine ⟨?_, by simpa using a6.2, by simpa using a5.2, of_decide_eq_true a4.2, of_decide_eq_true a3.2, fun x hx => ?_, fun y hy => of_decide_eq_true (List.all_eq_true.mp a1.2 y hy)⟩
  · have := a6.1
    split at this
    · assumption
    · cases this
  · rcases Bool.or_eq_true_iff.mp (List.all_eq_true.mp a2.2 x hx) with e | e
    · exact .inl (eq_of_beq e)
    · exact .inr (eq_of_beq e)
theorem trimX_ok {K : PySem.W.Frag} {mg : Str → Option Value} {μ μ' : List Addr} {I I' : MH} {H H' : Hp} {x : Exn} {c : Value} {dd : Option Addr} (ok : Ok K mg μ I H) (ok' : Ok K mg μ' I' H') (e : Ext μ I H μ' I' H') (r : RepX K mg μ' I' H' x c dd) :
    ∃ μ'', Ext μ I H μ'' (trim I ((x.fld.map (·.2)).getD .non) I') H' ∧ Ok K mg μ'' (trim I ((x.fld.map (·.2)).getD .non) I') H' ∧ RepX K mg μ'' (trim I ((x.fld.map (·.2)).getD .non) I') H' x c dd := by
  obtain ⟨C, h1, h2, h3⟩ := r
  cases hf : x.fld with
  | none =>
    rw [hf] at h3
    obtain ⟨μ'', a, b, _⟩ := trim_ok (d := .non) (v := .non) ok ok' e rfl
    exact ⟨μ'', a, b, C, h1, h2, by rw [hf]; exact h3⟩
  | some p =>
    obtain ⟨f, d⟩ := p
    rw [hf] at h3
    obtain ⟨a, v, g1, g2, g3⟩ := h3
    obtain ⟨μ'', a1, b1, c1⟩ := trim_ok (d := d) (v := v) ok ok' e g3
    exact ⟨μ'', a1, b1, C, h1, h2, by rw [hf]; exact ⟨a, v, g1, g2, c1⟩⟩
section
variable {P : Program} {w : World} {K : PySem.W.Frag} {mg : Str → Option Value} {base : Heap}
/-- the context of a def's body -/
structure DefX (X : Cx) : Prop where
  stk : X.stack = X.env :: X.outer
  frm : X.env.frame = some X.env.locals
/-- THE RULE of a def, its body read in whatever way -/
theorem fn_simG {x qual : Str} {st : Stmt} {f : Addr} {fd : FuncData} {N ps : List Str} {k : Nat} {C : CC} {body : SF} (F : Fun K x qual st f fd) (hs : defOk N ps (defScope st) = true) (hC : C.sc = defScope st ∧ C.N = N)
    (Md : Mdl P w K mg base k C) (hx : ∀ x fld, C.exs.lookup x = some fld → RaiseOk P w K mg base k x fld)
    (hb : ∀ (X : Cx) (W : WX), MtS X C W k → DefX X → X.prog = P → X.w = w → X.K = K → X.mg = mg → X.base = base → SSs X W (defBody st) body) :
    FnOk P w K mg base (L2N.CX P w) (k + 1) f fd ps (spSim K mg ps.length (runDef N.length body)) := by
  have S := scope_ok hs
  obtain ⟨oc, od, kV, doc, pm, an, cdv, ct, osl, rfl, lk, hcd⟩ := F.ex
  refine fn_of lk hcd S (fun vs H Q E h => h.1) fun A outer s H vs Q E hr h => ?_
  obtain ⟨hl, μ, I, ds, ok, rd, p⟩ := h
  have M : MtS (cxOf (L2N.CX P w) P w K mg base N qual (defScope st) f cdv A outer s H E) C (fun c d _ H' => E c d H') k :=
    { sc := hC.1.symm, N := hC.2.symm, nd := by rw [hC.2]; exact S.nd, calm := rfl, room := hr, tk := L2N.takes_of rfl rfl rfl rfl, isDef := fun _ _ => rfl, mdl := Md, flat := trivial, own := passes_of rfl, raises := hx }
  refine ⟨_, hb _ _ M ⟨rfl, rfl⟩ rfl rfl rfl rfl rfl, ?_⟩
  have hld : ds.length = vs.length := RVs.length rd
  refine ⟨μ, ds.map some ++ List.replicate (N.length - ds.length) none, I, ⟨?_, fun i d hi => ?_⟩, ok, ?_⟩
  · unfold L2.start
    simp [hld]
  · unfold L2.start
    by_cases hlt : i < ds.length
    · rw [List.getElem?_append_left (by rw [List.length_map]; exact hlt), List.getElem?_map] at hi
      cases hd : ds[i]? with
      | none => rw [hd] at hi; cases hi
      | some d' =>
        rw [hd] at hi; cases hi
        obtain ⟨v, hv, rv⟩ := RVs.get rd hd
        refine ⟨v, ?_, rv⟩
        rw [List.getElem?_append_left (by rw [List.length_map]; omega), List.getElem?_map, hv]
        rfl
    · rw [List.getElem?_append_right (by rw [List.length_map]; omega), List.getElem?_replicate] at hi
      split at hi <;> cases hi
  · unfold runDef at p
    cases hbd : body (ds.map some ++ List.replicate (N.length - ds.length) none) I with
    | ret d I' =>
      rw [hbd] at p
      intro μ' H' v e ok' rv
      obtain ⟨d', I'', μ'', h1, h2, h3, h4⟩ := fin_ok ok ok' e rv
      have p' : RPost K mg E μ I H _ (fin I d I') := p
      rw [h1] at p'
      exact p' μ'' H' h2 h3 v h4
    | nx ρ' I' =>
      rw [hbd] at p
      intro μ' σ' H' e ok' rr
      obtain ⟨μ'', h2, h3, h4⟩ := trim_ok (d := .non) (v := .non) ok ok' e rfl
      exact p μ'' H' h2 h3 .non h4
    | err z I' =>
      rw [hbd] at p
      intro μ' σ' H' c dd e ok' rx
      obtain ⟨μ'', h2, h3, h4⟩ := trimX_ok ok ok' e rx
      exact p μ'' H' c dd h2 h3 h4
    | brk ρ' I' => rw [hbd] at p; exact p.elim
    | cnt ρ' I' => rw [hbd] at p; exact p.elim
    | stuck => rw [hbd] at p; exact p.elim
/-- THE RULE of a def: what its text reads as is what it is worth -/
theorem fn_sim {x qual : Str} {st : Stmt} {f : Addr} {fd : FuncData} {N ps : List Str} {k n : Nat} {C : CC} {body : SF} (F : Fun K x qual st f fd) (hs : defOk N ps (defScope st) = true) (hC : C.sc = defScope st ∧ C.N = N)
    (hb : cSs n C (defBody st) = some body) (Md : Mdl P w K mg base k C) (hx : ∀ x fld, C.exs.lookup x = some fld → RaiseOk P w K mg base k x fld) :
    FnOk P w K mg base (L2N.CX P w) (k + 1) f fd ps (spSim K mg ps.length (runDef N.length body)) :=
  fn_simG F hs hC Md hx fun X W M _ _ _ _ _ _ => (cSS_ok n).2 X C W k M _ _ hb
end
end MP
/-! MX1: own exceptions whose __init__ says super().__init__(n); self.n = n -/
namespace SDX
open PySem PySem.W PySem.Calls PyProof.Rows PySem.HandSPX
def sdA (n : Str) (p1 p2 : Pos) : Arguments := { posonlyargs := [], args := [{ arg := "self", annotation := none, pos := p1 }, { arg := n, annotation := none, pos := p2 }], vararg := none, kwonlyargs := [], kw_defaults := [], kwarg := none, defaults := [] }
def sdB (n : Str) (q1 q2 q3 q4 q5 q6 q7 q8 q9 q10 : Pos) : List Stmt :=
  [.Expr (.Call (.Attribute (.Call (.Name "super" q1) [] [] q2) "__init__" q3) [.Name n q4] [] q5) q6, .Assign [.Attribute (.Name "self" q7) n q8] (.Name n q9) q10]
/-- the scope of such an __init__ -/
structure SdScope (n : Str) (sc : Scope) : Prop where
  kind : sc.kind = .function
  co : sc.isCoroutine = false
  gen : sc.isGenerator = false
  self : sc.names.lookup ("self" : Str) = some .local
  fld : sc.names.lookup n = some .local
  sup : sc.names.lookup ("super" : Str) = some .globalImplicit
  cls : sc.names.lookup ("__class__" : Str) = some .free
  nocell : ∀ x ∈ sc.names, x.2 ≠ .cell
/-- what the written part says of the class at C, its __init__ at fI, the cell of __class__ at cc, the code at cda -/
structure SdTxt (P : Program) (K : Frag) (mg : Str → Option Value) (x n : Str) (C fI cc cda : Addr) : Prop where
  gC : mg x = some (.ref C)
  cls : ∃ nm q N bs bm sn sub ab col dd k0 k1 k2 k3 k5, K.lookup C = some (excClassObj nm q C N bs bm true sn sub ab col dd k0 k1 k2 k3 k5 "ValueError.__new__") ∧ refsVE bm = true
  exI : excInitIn K C [.type "ValueError", .type "Exception", .type "BaseException", .type "object"] "ValueError.__new__" = true
  sa : findIn K (.ref C) "__setattr__" = some (some (.builtin "object.__setattr__"))
  noN : findIn K (.ref C) n = some none
  iC : findIn K (.ref C) "__init__" = some (some (.ref fI))
  tC : typeIn K (.ref fI) = some (.type "function")
  kC : keepIn K (.ref C) = true
  exC : subIn K (.ref C) (.type "BaseException") = some true
  veC : subIn K (.ref C) (.type "ValueError") = some true
  tyC : typeIn K (.ref C) = some (.type "type")
  hdC : hasDictIn K C = true
  sub : mroIn K C (.ref C) = some true
  sup : ks_superIn K C C "__init__" = some (some (.builtin "ValueError.__init__"))
  any : nsIn K cStatics "thirdparty.any" = some none
  gSup : mg "super" = none
  cell : ∃ cl cld csl, K.lookup cc = some ⟨cl, cld, .cell (some (.ref C)), csl⟩
  code : ∃ ccl cdd vs ccs file tf, K.lookup cda = some ⟨ccl, cdd, .fields vs, ccs⟩ ∧ vs[2]? = some (.str file tf) ∧ ((P.main.file : Str) == file) = true
  top : (P.main.scope.names.lookup ("super" : Str)).isSome = false
  fn : ∃ (oc : Value) (od : Option Addr) (name qual : Str) (sc : Scope) (doc pm : Value) (an : Option Addr) (ct : Value) (osl : Array (Option Value)) (p1 p2 q1 q2 q3 q4 q5 q6 q7 q8 q9 q10 : Pos),
    K.lookup fI = some ⟨oc, od, .func (ksFn name qual (sdA n p1 p2) (sdB n q1 q2 q3 q4 q5 q6 q7 q8 q9 q10) sc .none .none doc pm an (.ref cda) ct cc), osl⟩ ∧ codeIn K (.ref cda) qual = true ∧ SdScope n sc ∧ (q3.endLine == q5.line) = true
/-- the field's name is one of ours -/
structure SdName (n : Str) : Prop where
  dbg : (n == ("__debug__" : Str)) = false
  slf : n ≠ "self"
  bind : ∀ (s : Shared) (name qual : Str) (sc : Scope) (p1 p2 q1 q2 q3 q4 q5 q6 q7 q8 q9 q10 : Pos) (doc pm ct cd : Value) (an : Option Addr) (cc : Addr) (u v : Value),
    BindsTo s (ksFn name qual (sdA n p1 p2) (sdB n q1 q2 q3 q4 q5 q6 q7 q8 q9 q10) sc .none .none doc pm an cd ct cc) ⟨[u, v], []⟩ [(("self" : Str), u), (n, v)]
theorem kept_but {K : Frag} {h h' : Heap} {x : Addr} (X : K.In h) (hx : K.lookup x = none) (k : ∀ b o, b ≠ x → h.get? b = some o → h'.get? b = some o) : K.In h' := fun a o e =>
  k a o (fun z => by rw [z, hx] at e; cases e) (X a o e)
/-- what __init__ leaves of a fresh exception at x -/
structure InitEnd (n : Str) (h h' : Heap) (x C dx t1 : Addr) (v : Value) : Prop where
  keep : ∀ b o, b ≠ x → h.get? b = some o → h'.get? b = some o
  obj : h'.get? x = some { cls := .ref C, dict := some dx, data := .fields #[.ref t1, .none, .none, .none, .bool false, .none] }
  dbig : h.objs.size ≤ dx
  dne : dx ≠ x
  ns : h'.Ns1 dx (fun y => if y = n then some v else none)
/-- a made one -/
structure OwnMade (n : Str) (h h' : Heap) (e C d : Addr) (v : Value) : Prop where
  keep : ∀ b o, h.get? b = some o → h'.get? b = some o
  new : h.objs.size ≤ e
  obj : ∃ oe vs, h'.get? e = some oe ∧ oe.cls = .ref C ∧ oe.dict = some d ∧ oe.data = .fields vs ∧ vs[1]? = some .none ∧ vs[2]? = some .none
  dbig : h.objs.size ≤ d
  dne : d ≠ e
  ns : h'.Ns1 d (fun y => if y = n then some v else none)
section
variable {prog : Program} {w : World} {A : Around} {E : Value → Shared → Prop} {R : Result → Shared → Prop} {s : Shared} {K : Frag} {mg : Str → Option Value} {base : Heap} {x0 n : Str} {C fI cc cda : Addr}
theorem sd_init (T : SdTxt prog K mg x0 n C fI cc cda) (SN : SdName n) {x t0 : Addr} {v : Value} (B : L2.Mod K mg base) (bk : ∀ b o, base.get? b = some o → s.heap.get? b = some o) (bz : base.objs.size ≤ s.heap.objs.size)
    (hx : s.heap.get? x = some (excO C t0)) (hnx : base.get? x = none) (hroom : A.depth < recursionLimit)
    (hq : ∀ h' tk dx t1, InitEnd n s.heap h' x C dx t1 v → R (.ok (.ret .none)) { s with heap := h', toks := tk }) :
    codeAny (model prog w) A (.call (.ref fI) ⟨[.ref x, v], []⟩) R s := by
  obtain ⟨oc, od, name, qual, sc, doc, pm, an, ct, osl, p1, p2, q1, q2, q3, q4, q5, q6, q7, q8, q9, q10, ho, hcd, S, hln⟩ := T.fn
  obtain ⟨sk, snames, sgen, sco, smore⟩ := sc
  obtain rfl : sk = .function := S.kind
  obtain ⟨cl, cld, csl, hcell⟩ := T.cell
  obtain ⟨ccl, cdd, vs, ccs, file, tf, hcode, hvs, hfile⟩ := T.code
  obtain ⟨nm, q, N, bs, bm, sn, sub, ab, col, dd, k0, k1, k2, k3, k5, hC, hbm⟩ := T.cls
  have X : K.In s.heap := B.kin.keeps bk
  have hcl : clsIn K C = some { name := nm, bases := bs, mro := .ref C :: bm, ns := N, qualname := q, hasDict := true, slotNames := sn, subclasses := sub, abstract := ab, collection := col, hasDel := false } := by unfold clsIn; rw [hC] <;> rfl
  obtain ⟨mb, hmb, hmbv⟩ := B.blt
  refine ks_codeAny_call_defAt (fd := ksFn name qual (sdA n p1 p2) (sdB n q1 q2 q3 q4 q5 q6 q7 q8 q9 q10) ⟨.function, snames, sgen, sco, smore⟩ .none .none doc pm an (.ref cda) ct cc) (body := sdB n q1 q2 q3 q4 q5 q6 q7 q8 q9 q10) (binds := [(("self" : Str), .ref x), (n, v)]) hroom (X _ _ ho) rfl (B.nolimit.keeps bk) (codeRec_of X hcd) rfl
    (SN.bind _ _ _ _ _ _ _ _ _ _ _ _ _ _ _ _ _ _ _ _ _ _ _ _) S.nocell (fun y hy => ?_) (fun h1 hns hk1 => ?_) S.co S.gen S.kind
  · rcases List.mem_cons.mp hy with rfl | hy
    · exact S.self
    · rcases List.mem_cons.mp hy with rfl | hy
      · exact S.fld
      · cases hy
  have gG : ∀ b o, (hideAll s.heap [x]).get? b = some o → s.heap.get? b = some o := fun b o e => of_hideAll _ e
  have toG : ∀ b o, b ≠ x → s.heap.get? b = some o → (hideAll s.heap [x]).get? b = some o := fun b o hb e => hideAll_get _ e (by simpa using hb)
  have bG : ∀ b o, base.get? b = some o → (hideAll s.heap [x]).get? b = some o := fun b o e => toG b o (fun z => by rw [z, hnx] at e; cases e) (bk b o e)
  have XG : K.In (hideAll s.heap [x]) := B.kin.keeps bG
  have F : Fr (hideAll s.heap [x]) s.heap.objs.size h1 (fun y => [(("self" : Str), Value.ref x), (n, v)].reverse.lookup y) := ⟨hns, fun b o e => hk1 b o (gG b o e), Nat.le_of_eq (hideAll_size _ _)⟩
  have hx1 := hk1 _ _ hx
  have N1 : News (hideAll s.heap [x]) s.heap.objs.size h1 [(x, excO C t0)] := fun p hp => by
    obtain rfl : p = (x, excO C t0) := by simpa using hp
    exact ⟨hx1, Nat.ne_of_lt (Heap.lt_size hx), hideAll_none _ (by simp)⟩
  have X1 : K.In h1 := X.keeps hk1
  have hslf : (fun y => [(("self" : Str), Value.ref x), (n, v)].reverse.lookup y) ("self" : Str) = some (Value.ref x) := by
    have : (("self" : Str) == n) = false := by simpa using (Ne.symm SN.slf)
    simp [List.lookup, this]
  have hfld : (fun y => [(("self" : Str), Value.ref x), (n, v)].reverse.lookup y) n = some v := by simp [List.lookup]
  show _root_.PySem.wpAt (model prog w) (A.deeper (ksEnv qual ⟨.function, snames, sgen, sco, smore⟩ s.heap.objs.size fI (.ref cda) cc)) (.func _ (ksEnv qual ⟨.function, snames, sgen, sco, smore⟩ s.heap.objs.size fI (.ref cda) cc)) (execs (sdB n q1 q2 q3 q4 q5 q6 q7 q8 q9 q10) (ksEnv qual ⟨.function, snames, sgen, sco, smore⟩ s.heap.objs.size fI (.ref cda) cc)) _ _ _
  unfold sdB
  refine ks_wpAt_execs_cons (ks_wpAt_Expr_any (ks_wpAt_MethodCall (pl := (do return (← importBound (.Call (.Name "super" q1) [] [] q2) (ksEnv qual ⟨.function, snames, sgen, sco, smore⟩ s.heap.objs.size fI (.ref cda) cc)).getD true)) ?_ ?_))
  · refine ks_wpAt_super_base (env := ksEnv qual ⟨.function, snames, sgen, sco, smore⟩ s.heap.objs.size fI (.ref cda) cc) S.sup S.cls (by decide) rfl (X1 _ _ ho) rfl rfl rfl (X1 _ _ hcode) rfl hvs hfile T.top ?_
    refine ks_loadName_global S.kind S.sup (loadGlobal_builtin (env := ksEnv qual ⟨.function, snames, sgen, sco, smore⟩ s.heap.objs.size fI (.ref cda) cc) (B.glob.keeps fun b o e => F.keep b o (bG b o e)) T.gSup (hmb.keeps fun b o e => F.keep b o (bG b o e)) (hmbv _ (by decide +kernel)) ⟨rfl, ?_⟩)
    refine wpAny_loadName_free S.kind S.cls rfl ⟨_, X1 _ _ hcell, rfl⟩ ?_
    refine wpAny_loadName_local S.kind S.self F.ns hslf ?_
    refine ks_wpAny_isType_cls (X1 _ _ hC) rfl ⟨rfl, ?_⟩
    refine ks_wpAny_call_super (X1 _ _ hC) rfl hx1 rfl (fun c e => by cases e) (looks_mroIn X1 T.sub) (fun h2 e2 kk2 => ?_)
    obtain ⟨F2, N2, _⟩ := ks_newsPush (s := ⟨h1, s.gens, s.drawn, s.toks + 2, s.os⟩) (o := ks_superObj C x C) F N1 rfl e2 kk2
    have I2 : InstAt h2 x (excO C t0) C none := ⟨(N2 (x, excO C t0) (.tail _ (List.mem_cons_self ..))).1, rfl, rfl, trivial⟩
    refine kxs_method (K := K) (C := C) (D := C) kxs_ValueError F2 XG N2 (List.mem_cons_self ..) I2 T.any T.sup T.veC (by decide) (fun q' h3 F3 N3 l3 => ?_)
    refine kxs_callWith1 (i := "ValueError.__init__") (x := x) N3 (List.mem_cons_self ..) ?_
    refine Calls.spliced_cons (wpAny_Name (wpAny_loadName_local S.kind S.fld F3.ns hfld ?_) SN.dbg)
    refine Calls.spliced_nil ⟨kxs_at N3 (List.mem_cons_self ..), ?_⟩
    have ne1 : x ≠ q' := Nat.ne_of_lt (l3 (x, excO C t0) (by simp))
    have ne2 : x ≠ h1.objs.size := Nat.ne_of_lt (Heap.lt_size hx1)
    refine kxs_call (t := t0) (dv := none) (c2 := .none) F3 XG N3 PySem.F.excBase_ValueError T.exI (List.mem_cons_self ..) (.tail (Ne.symm ne1) (.tail (Ne.symm ne2) (.head fun p hp => nomatch hp))) (by rw [sizeLine_eq]; exact (by decide : 1 ≤ 16777216)) (fun t' h4 F4 N4 l4 => ?_)
    have hx4 : h4.get? x = some (excO C t') := (N4 (x, excO C t') (by simp)).1
    have k4 : ∀ b o, b ≠ x → s.heap.get? b = some o → h4.get? b = some o := fun b o hb e => F4.keep b o (toG b o hb e)
    have z4 : s.heap.objs.size < h4.objs.size := F4.ns.lt
    refine wpAt_of_wpAny (wpAny_execs_cons (plainObj_wpAny_Assign_Attribute ?_))
    refine wpAny_Name (wpAny_loadName_local rfl S.fld F4.ns hfld ?_) SN.dbg
    refine wpAny_Name (wpAny_loadName_local rfl S.self F4.ns hslf ?_) (by decide)
    refine set_plain (XG.keeps F4.keep) (ox := excO C t') (od := none) ⟨hx4, rfl, rfl, trivial⟩ T.sa ?_
    refine exc_osa (XG.keeps F4.keep) hx4 hcl (show refsVE (.ref C :: bm) = true from hbm) rfl T.noN (fun h5 tk5 dx k5 dn dne hx5 hn5 => ?_)
    refine wpAny_execs_nil (hq h5 tk5 dx t' ⟨fun b o hb e => k5 b o hb (k4 b o hb e), hx5, Nat.le_of_lt (Nat.lt_of_lt_of_le z4 dn), dne, hn5⟩)
  · rw [arm_eval_Call]
    unfold methodCall calleeOf methodCallPos
    rw [show (!methodCallForm ([Expr.Name n q4].length + ([] : List Keyword).length) (backTo q5 (starEach [Expr.Name n q4] (ksEnv qual ⟨.function, snames, sgen, sco, smore⟩ s.heap.objs.size fI (.ref cda) cc))) (backToKw q5 (keywordEach [] (ksEnv qual ⟨.function, snames, sgen, sco, smore⟩ s.heap.objs.size fI (.ref cda) cc)))) = false from rfl, hln]
    rfl
theorem sd_made (T : SdTxt prog K mg x0 n C fI cc cda) (SN : SdName n) {v : Value} (B : L2.Mod K mg base) (bk : ∀ b o, base.get? b = some o → s.heap.get? b = some o) (bz : base.objs.size ≤ s.heap.objs.size) (hroom : A.depth + 1 < recursionLimit)
    (hq : ∀ h' tk e d, OwnMade n s.heap h' e C d v → R (.ok (.ret (.ref e))) { s with heap := h', toks := tk }) :
    codeAny (model prog w) A (.call (.ref C) ⟨[v], []⟩) R s := by
  obtain ⟨nm, q, N, bs, bm, sn, sub, ab, col, dd, k0, k1, k2, k3, k5, hC, hbm⟩ := T.cls
  obtain ⟨hp, g, dr, tk, os⟩ := s
  have X : K.In hp := B.kin.keeps bk
  have k : ∀ b o, hp.get? b = some o → ((hp.push (kdv_tup [v])).push (excO C hp.objs.size)).get? b = some o := fun b o e => Heap.get?_push_of_some _ (Heap.get?_push_of_some _ e)
  have hget : ((hp.push (kdv_tup [v])).push (excO C hp.objs.size)).get? (hp.objs.size + 1) = some (excO C hp.objs.size) := by heap_get
  have hnx : base.get? (hp.objs.size + 1) = none := by
    cases e : base.get? (hp.objs.size + 1) with
    | none => rfl
    | some o => exact absurd (Nat.lt_of_succ_lt (Heap.lt_size (bk _ _ e))) (Nat.lt_irrefl _)
  refine call_own PySem.F.excBase_ValueError (fun X => refsVE_contains X bm hbm) (X _ _ hC) (looks_findIn X T.iC) (fun self => bind_fn X self T.tC) (by rw [sizeLine_eq]; exact (by decide : 1 ≤ 16777216)) ?_
  refine sd_init (s := ⟨(hp.push (kdv_tup [v])).push (excO C hp.objs.size), g, dr, tk, os⟩) T SN B (fun b o e => k b o (bk b o e)) ?_ hget hnx ?_ fun h' tk' dx t1 ⟨k', hx, dn, dne, hns⟩ => ?_
  · show base.objs.size ≤ ((hp.push _).push _).objs.size
    rw [Heap.size_push, Heap.size_push]
    exact Nat.le_succ_of_le (Nat.le_succ_of_le bz)
  · show A.depth + 1 < recursionLimit
    exact hroom
  · have old : ∀ b o, hp.get? b = some o → h'.get? b = some o := fun b o e => k' b o (Nat.ne_of_lt (Nat.lt_succ_of_lt (Heap.lt_size e))) (k b o e)
    have z : hp.objs.size + 1 + 1 ≤ dx := by
      have q := dn
      rw [Heap.size_push, Heap.size_push] at q
      exact q
    exact ⟨rfl, hq h' tk' (hp.objs.size + 1) dx ⟨old, Nat.le_succ _, ⟨_, _, hx, rfl, rfl, rfl, rfl, rfl⟩, Nat.le_trans (Nat.le_trans (Nat.le_succ _) (Nat.le_succ _)) z, dne, hns⟩⟩
end
end SDX
/-! MX2: raise of the own exceptions -/
namespace MP
open PySem PySem.Spec L2
theorem relO_sd {n : Str} {v : V} {v' : Value} (r : RelV v v') (f : Str) : RelO (List.lookup f [(n, v)]) (if f = n then some v' else none) := by
  by_cases hw : f = n
  · subst hw
    rw [if_pos rfl]
    have q : List.lookup f [(f, v)] = some v := by simp [List.lookup]
    rw [q]
    exact r
  · rw [if_neg hw]
    have qw : (f == n) = false := by simpa using hw
    have q2 : List.lookup f [(n, v)] = none := by simp [List.lookup, qw]
    rw [q2]
    trivial
section
variable {X : Cx} {x n : Str} {C fI cc cda : Addr}
def tMkSd (n : Str) (C : Addr) (ta : TA) : L2.St → Hp → XK → Prop := fun σ H Q => ta σ H fun vs H1 => ∃ v, vs = [v] ∧ ∀ d, H1 d = none → Q (.ref C) (some d) (upd H1 d (.xd [(n, v)]))
theorem pmk_sd {a : Expr} {ta : TA} {p pos : Pos} {k : Nat} (T : SDX.SdTxt X.prog X.K X.mg x n C fI cc cda) (SN : SDX.SdName n) (hr : Room k X.A) (ha : PA X [a] ta) (hg : Gl X x) (hdb : (x == ("__debug__" : Str)) = false)
    (he : starEach (a :: []) X.env = (false, eval a X.env) :: starEach [] X.env) (hpl : (backTo pos (starEach [] X.env)).any (·.1) = false := by rfl) :
    L2N.PMk X (.Call (.Name x p) [a] [] pos) (tMkSd n C ta) := by
  intro pins s σ H Q I h
  refine wpAny_Call_Name_kw (ld_glob I hg T.gC ?_ hdb)
  refine PySem.W.callWith_K (h₀ := X.base) I.ok.mod.kin T.kC (thn (ha.run pos pins s σ H _ I h) fun us s1 hh => ?_) he hpl
  obtain ⟨vs, H1, I1, r1, v, ev, q1⟩ := hh
  subst ev
  refine ⟨I1.kIn, ?_⟩
  cases r1 with
  | cons rv rn =>
    rename_i v' us'
    cases rn
    show wpAny _ _ (call (.ref C) [v']) _ _ _
    obtain ⟨m1, F1⟩ := I1.fr
    have bz1 : X.base.objs.size ≤ s1.heap.objs.size := Nat.le_trans F1.above (Nat.le_of_lt I1.lt)
    have bk1 := I1.bk
    obtain ⟨hp, g, dr, tk, os⟩ := s1
    refine wpAny_call (SDX.sd_made T SN I1.mod bk1 bz1 (by have := hr.dp; omega) fun h' tk' e d M => ?_)
    show L2N.MkP X pins σ Q (.ref e) ⟨h', g, dr, tk', os⟩
    obtain ⟨oe, fv, hoe, hc, hd, hdat, h1, h2⟩ := M.obj
    have hns := M.ns
    obtain ⟨G', g1, g2⟩ := restrict h' fun b => decide (b ≠ e)
    have gk : ∀ b, b ≠ e → G'.get? b = h'.get? b := fun b hb => g1 b (decide_eq_true hb)
    have ge : G'.get? e = none := g2 e (by simp)
    have old : ∀ b o, hp.get? b = some o → G'.get? b = some o := fun b o q => (gk b (Nat.ne_of_lt (Nat.lt_of_lt_of_le (Heap.lt_size q) M.new))).trans (M.keep b o q)
    have ob : ObjOk X.prog X.w (upd H1 d (.xd [(n, v)])) G' d (.xd [(n, v)]) :=
      ⟨_, hns.at (fun o q => (gk d M.dne).trans q), fun f => relO_sd rv f⟩
    have J : Inv X pins σ (upd H1 d (.xd [(n, v)])) ⟨G', g, dr, tk', os⟩ := I1.laid (t' := tk') old M.dbig ob
    refine ⟨e, oe, fv, ⟨G', g, dr, tk', os⟩, _, .ref C, some d, rfl, J, fun b o q => ?_, ge, hoe, ⟨hc, hd, fun vs hv => ?_⟩, hdat, h1, ?_, rfl, I1.bare, raises_own T.exC T.tyC, q1 d (I1.hok.fresh M.dbig)⟩
    · by_cases hb : b = e
      · have q' : G'.get? b = some o := q
        rw [hb, ge] at q'; cases q'
      · exact (gk b hb).symm.trans q
    · rw [hdat] at hv
      cases hv
      exact h2
    · rw [upd_ne (Ne.symm M.dne)]
      exact I1.hok.fresh M.new
end
section
variable {P : Program} {w : World} {K : PySem.W.Frag} {mg : Str → Option Value} {base : Heap} {k : Nat} {x n : Str} {C fI cc cda : Addr}
theorem raise_sd (T : SDX.SdTxt P K mg x n C fI cc cda) (SN : SDX.SdName n) (hdb : (x == ("__debug__" : Str)) = false) : RaiseOk P w K mg base k x (some n) := by
  intro X W e f p pos pos2 e1 e2 e3 e4 e5 hr hc tk hW hg hn he
  subst e1 e2 e3 e4 e5
  have hs := star_cons (env := X.env) (es := []) hn
  refine ps_weak (L2N.ps_raise hc tk (pmk_sd T SN hr (pa_cons he pa_nil hs) hg hdb hs)) fun De σ H ⟨μ, ρ, I, rr, ok, p⟩ => ?_
  refine ⟨μ, ρ, I, rr, ok, (bindS_post hW (σ := σ) p).imp (S' := sE X _) (fun μ1 I1 H1 d e1 ok1 q v rv => ?_) fun _ _ _ z => z⟩
  refine ⟨v, rfl, fun a ha => ?_⟩
  exact q μ1 σ (upd H1 a (.xd [(n, v)])) (.ref C) (some a) (Ext.same (same_upd ha)) (ok1.same (same_upd ha)) ⟨C, T.gC, rfl, a, v, rfl, upd_same, rv_same ok1 (same_upd ha) rv⟩
/-- an own class without own __init__ -/
structure OwTxt (K : PySem.W.Frag) (mg : Str → Option Value) (x : Str) (C : Addr) : Prop where
  gC : mg x = some (.ref C)
  ex : PySem.W.excIn K C [.type "ValueError", .type "Exception", .type "BaseException", .type "object"] "ValueError.__new__" = true
  kC : PySem.W.keepIn K (.ref C) = true
  exC : PySem.W.subIn K (.ref C) (.type "BaseException") = some true
  tyC : PySem.W.typeIn K (.ref C) = some (.type "type")
theorem pmk_ow {X : Cx} {a : Expr} {ta : TA} {p pos : Pos} (T : OwTxt X.K X.mg x C) (ha : PA X [a] ta) (hg : Gl X x) (hdb : (x == ("__debug__" : Str)) = false)
    (he : starEach (a :: []) X.env = (false, eval a X.env) :: starEach [] X.env) (hpl : (backTo pos (starEach [] X.env)).any (·.1) = false := by rfl) :
    L2N.PMk X (.Call (.Name x p) [a] [] pos) (fun σ H Q => ta σ H fun vs H1 => vs.length ≤ sizeLine ∧ Q (.ref C) none H1) := by
  intro pins s σ H Q I h
  refine wpAny_Call_Name_kw (ld_glob I hg T.gC ?_ hdb)
  refine PySem.W.callWith_K (h₀ := X.base) I.ok.mod.kin T.kC (thn (ha.run pos pins s σ H _ I h) fun us s1 ⟨vs, H1, I1, r1, hz, q1⟩ => ⟨I1.kIn, ?_⟩) he hpl
  show wpAny _ _ (call (.ref C) us) _ _ _
  obtain ⟨bm, N, nm, qn, bs, hdct, sn, sub, ab, col, dd, k0, k1, k2, k3, k5, mN, hC, hN, hni, T'⟩ := exc_obj I1.kIn T.ex
  refine wpAny_call_exc_subT PySem.F.excBase_ValueError T' hC hN hni (fun h' e hm => ?_) (by rw [← r1.length]; exact hz)
  exact L2N.mk_of I1 hm (raises_own T.exC T.tyC) q1 (I1.hok.gone hm.new)
theorem raise_ow (T : OwTxt K mg x C) (hdb : (x == ("__debug__" : Str)) = false) : RaiseOk P w K mg base k x none := by
  intro X W e f p pos pos2 e1 e2 e3 e4 e5 hr hc tk hW hg hn he
  subst e1 e2 e3 e4 e5
  have hs := star_cons (env := X.env) (es := []) hn
  refine ps_weak (L2N.ps_raise hc tk (pmk_ow T (pa_cons he pa_nil hs) hg hdb hs)) fun De σ H ⟨μ, ρ, I, rr, ok, p⟩ => ?_
  refine ⟨μ, ρ, I, rr, ok, (bindS_post hW (σ := σ) p).imp (S' := sE X _) (fun μ1 I1 H1 d e1 ok1 q v rv => ?_) fun _ _ _ z => z⟩
  refine ⟨by rw [sizeLine_eq]; exact (by decide : 1 ≤ 16777216), ?_⟩
  exact q μ1 σ H1 (.ref C) none Ext.refl ok1 ⟨C, T.gC, rfl, rfl⟩
end
end MP
/-! MX3: try .. except X as e -/
namespace MP
open PySem PySem.Spec L2
/-- the caught exception's field -/
def FldAt (K : PySem.W.Frag) (μ : List Addr) (I : MH) (H : Hp) (d : Option Addr) : Option (Str × D) → Prop
  | none => d = none
  | some (f, x) => ∃ dd v, d = some dd ∧ H dd = some (.xd [(f, v)]) ∧ RV K μ I H x v
/-- what the suite says: the exception's field to what is returned -/
def tSu (X : Cx) (i : Nat) (sd : Option (Str × D) → Option D) (a : Addr) (d : Option Addr) : TS := fun De σ H =>
  (i < σ.length → σ[i]? = some (some (.ref a))) ∧ ∃ μ I fl r, Ok X.K X.mg μ I H ∧ FldAt X.K μ I H d fl ∧ sd fl = some r ∧ ∀ μ' H' v, Ext μ I H μ' I H' → Ok X.K X.mg μ' I H' → RV X.K μ' I H' r v → De.rt v H'
def SuiteOk (X : Cx) (i : Nat) (C : Addr) (suite : List Stmt) (sd : Option (Str × D) → Option D) : Prop :=
  ∀ (a : Addr) (oe : Obj) (d : Option Addr) (pn : List (Addr × Obj)), L2N.Zn (.ref C) d oe → (∃ vs, oe.data = .fields vs) → PSs (X.suite a ((a, oe) :: pn)) suite (tSu X i sd a d)
def tryS (x : Str) (sd : Option (Str × D) → Option D) (f : SF) : SF := fun ρ I => match f ρ I with
  | .err e I1 => if e.cls = x then (match sd e.fld with
    | some r => .ret r I1
    | none => .stuck) else .stuck
  | r => r
theorem ss_try {X : Cx} {W : WX} {x n : Str} {C : Addr} {i : Nat} {b₀ : Stmt} {body suite : List Stmt} {np pos pos' : Pos} {sd : Option (Str × D) → Option D} {f : SF} (D0 : DefX X) (hN : X.N.Nodup) (hi : X.N[i]? = some n) (hln : X.env.kindOf n = some .local)
    (hc : Names X x (.ref C)) (gC : X.mg x = some (.ref C)) (hex : PySem.W.exmOne X.K (.ref C) (.ref C) = some true) (tk : L2N.Takes X W)
    (hb : ∀ (W : WX) (pn : List (Addr × Obj)) (xe : Value → Shared → Prop), L2N.Takes (X.tr pn xe) W → PassesOwn (model X.prog X.w) X.A X.env xe → SSs (X.tr pn xe) W body f)
    (hsu : SuiteOk X i C (b₀ :: suite) sd) : SS X W (.Try body [.ExceptHandler (some (.Name x np)) (some n) (b₀ :: suite) pos'] [] [] pos) (tryS x sd f) := by
  refine ps_weak (L2N.ps_try_as (ts := fun a cls d De σ H => cls = .ref C ∧ tSu X i sd a d De σ H) (tb := fun W' => tS X W' f) D0.stk D0.frm hN hi hln hc tk hb (fun a oe cls d pn hz hf => ⟨fun pins s σ H De I q => ?_⟩)) fun De σ H ⟨μ, ρ, I, rr, ok, p⟩ => ?_
  · obtain ⟨rfl, q⟩ := q
    exact (hsu a oe d pn hz hf).run pins s σ H De I q
  · refine ⟨μ, ρ, I, rr, ok, ?_⟩
    unfold tryS at p
    cases hf : f ρ I with
    | err e I1 =>
      rw [hf] at p
      dsimp only at p
      split at p
      · rename_i hcl
        cases hs : sd e.fld with
        | none => rw [hs] at p; exact p.elim
        | some r =>
          rw [hs] at p
          intro μ1 σ1 H1 c dd e1 ok1 rx
          obtain ⟨C', g1, g2, g3⟩ := rx
          rw [hcl, gC] at g1
          cases g1
          subst g2
          refine ⟨true, hex, fun _ a na => ⟨rfl, fun hlt => ?_, μ1, I1, e.fld, r, ok1, ?_, hs, fun μ2 H2 v e2 ok2 rv => p μ2 H2 v (e1.trans e2) ok2 rv⟩, fun z => nomatch z⟩
          · rw [List.length_set] at hlt
            exact List.getElem?_set_self hlt
          · cases hfl : e.fld with
            | none => rw [hfl] at g3; exact g3
            | some q =>
              rw [hfl] at g3
              obtain ⟨a', v, q1, q2, q3⟩ := g3
              exact ⟨a', v, q1, q2, q3⟩
      · exact p.elim
    | nx ρ1 I1 => rw [hf] at p; exact p
    | ret d I1 => rw [hf] at p; exact p
    | brk ρ1 I1 => rw [hf] at p; exact p
    | cnt ρ1 I1 => rw [hf] at p; exact p
    | stuck => rw [hf] at p; exact p
/-! ### isinstance of the caught exception -/
structure ExcD (K : PySem.W.Frag) (C : Addr) : Prop where
  hg : PySem.W.findIn K (.ref C) "__getattribute__" = some (some (.builtin "BaseException.__getattribute__"))
  hk : PySem.W.findIn K (.ref C) "__getattr__" = some none
  hs : PySem.W.subIn K (.ref C) (.type "BaseException") = some true
  hd : PySem.W.hasDictIn K C = true
  ha : PySem.W.findIn K (.ref C) "__class__" = some (some (.builtin "object.__class__"))
  hn : PySem.W.specialIn K (.builtin "object.__class__") "__get__" = some (some (.builtin "getset_descriptor.__get__"))
  ht : PySem.W.takesIn K (.builtin "object.__class__") = some true
  hm : PySem.W.mroIn K C (.type "object") = some true
theorem ExcD.cl {K : PySem.W.Frag} {C : Addr} (E : ExcD K C) : (PySem.W.clsIn K C).isSome = true := by
  obtain ⟨cd, hc, _⟩ := PySem.W.any_some E.hd
  rw [hc] <;> rfl
/-- isinstance(e, c), e the exception that the suite holds, with or without a dict -/
def rIsX (K : PySem.W.Frag) (C a : Addr) (d : Option Addr) : List V → Hp → VK → Prop := fun xs H Q => ∃ (c : V) (cv : Value) (b : Bool), xs = [.ref a, c] ∧ (∀ u, RelV c u → u = cv) ∧ PySem.W.kitOne K (.ref C) cv = some b ∧ (d = none ∨ ∃ dd fs, d = some dd ∧ H dd = some (.xd fs)) ∧ Q (.bl b) H
theorem call_isX {X : Cx} {a C : Addr} {oe : Obj} {d : Option Addr} {pn : List (Addr × Obj)} (E : ExcD X.K C) (hz : Zc (.ref C) d oe) (hf : ∃ vs, oe.data = .fields vs) : CallR (X.suite a ((a, oe) :: pn)) (.builtin "isinstance") (rIsX X.K C a d) := by
  intro pins s σ H xs us Q I r h
  obtain ⟨c, cv, b, rfl, hcv, e, hd, q⟩ := h
  cases r with
  | cons rx rr =>
    cases rr with
    | cons rt rr =>
      cases rr
      cases rx
      have ec := hcv _ rt
      subst ec
      obtain ⟨hget, _⟩ := I.pin (a, oe) (List.mem_append.mpr (.inl List.mem_cons_self))
      obtain ⟨vs, hv⟩ := hf
      obtain ⟨od, J⟩ : ∃ od, PySem.W.InstAt s.heap a oe C od := by
        rcases hd with rfl | ⟨dd, fs, rfl, ea⟩
        · exact ⟨none, hget, hz.1, by unfold PySem.W.notCls; rw [hv] <;> rfl, by rw [hz.2]; trivial⟩
        · have hx : ObjOk X.prog X.w H s.heap dd (.xd fs) := I.hok dd _ ea
          obtain ⟨mA, hns, hr⟩ := hx
          obtain ⟨od, ho, hl⟩ := lookIn_ns hns
          exact ⟨some od, hget, hz.1, by unfold PySem.W.notCls; rw [hv] <;> rfl, by rw [hz.2]; exact ho⟩
      exact PySem.W.kia_one (PySem.W.kitx_exc E.cl E.hg E.hk E.hs E.ha E.hn E.ht E.hm) I.kIn J e (fun z => nomatch z) fun tk => ⟨.bl b, H, I.kept (t' := tk) fun _ _ z => z, rfl, q⟩
end MP
/-! MX4: the suites of the laws' "told" -/
namespace MP
open PySem PySem.Spec L2
/-! ### is_integer, called in a suite -/
/-- its body -/
def isIntB (x : Str) (p1 p2 p3 p4 p5 p6 p7 p8 p9 p10 p11 : Pos) : List Stmt :=
  [.Return (some (.BoolOp .And [.Call (.Name "isinstance" p1) [.Name x p2, .Name "int" p3] [] p4, .UnaryOp .Not (.Call (.Name "isinstance" p5) [.Name x p6, .Name "bool" p7] [] p8) p9] p10)) p11]
def spIsInt : Sp := fun vs H Q _ => ∃ z, vs = [.int z] ∧ Q (.bl true) H
section
variable {P : Program} {w : World} {K : PySem.W.Frag} {mg : Str → Option Value} {base : Heap}
theorem isInt_fnH {x qual y : Str} {st : Stmt} {f : Addr} {fd : FuncData} {k : Nat} {p1 p2 p3 p4 p5 p6 p7 p8 p9 p10 p11 : Pos} (F : Fun K x qual st f fd) (hs : defOk [y] [y] (defScope st) = true) (hb : defBody st = isIntB y p1 p2 p3 p4 p5 p6 p7 p8 p9 p10 p11)
    (hI : (defScope st).names.lookup ("isinstance" : Str) = some .globalImplicit) (hT : (defScope st).names.lookup ("int" : Str) = some .globalImplicit) (hB : (defScope st).names.lookup ("bool" : Str) = some .globalImplicit) (hy : (defScope st).names.lookup y = some .local)
    (hd1 : (y == ("__debug__" : Str)) = false) (hd2 : (y == ("__classdict__" : Str)) = false)
    (mI : mg "isinstance" = none) (mT : mg "int" = none) (mB : mg "bool" = none) : L2H.FnH P w K mg base (L2N.CX P w) (k + 1) f fd [y] spIsInt := by
  have S := scope_ok hs
  obtain ⟨oc, od, kV, doc, pm, an, cdv, ct, osl, rfl, lk, hcd⟩ := F.ex
  refine L2H.fn_ofH lk hcd S (fun vs H Q E ⟨z, h, _⟩ => by rw [h]; rfl) fun A outer s H vs Q E p hot hr hsp => ?_
  obtain ⟨z, rfl, hq⟩ := hsp
  rw [hb]
  let X := L2H.cxH (L2N.CX P w) P w K mg base [y] qual (defScope st) f cdv A outer s H E p
  have vy : ∀ {pp : Pos}, PE X (.Name y pp) (tVar 0) := fun {pp} => pe_var (X := X) rfl (.inl hy) hd1 hd2
  have gI : Gl X "isinstance" := hI
  have cI : ∀ {T : Str} {pa pb pc pd : Pos}, Gl X T → mg T = none → ∀ {tn : String}, bootBuiltins T = some (.type tn) → T ≠ "__name__" → (T == ("__debug__" : Str)) = false →
      PE X (.Call (.Name "isinstance" pa) [.Name y pb, .Name T pc] [] pd) (tCB (rIsi X.K) (tCons (tVar 0) (tCons (tC (.ty tn)) tNil))) := fun {T pa pb pc pd} g m {tn} hv hn hd =>
    pe_callB call_isi gI mI (by decide +kernel) (pa_cons vy (pa_cons (pe_bltn g m hv rfl hn hd) pa_nil)) (by decide) (by decide)
  refine ⟨_, pss_one (ps_ret (pe_and (cI (T := "int") (tn := "int") hT mT (by decide +kernel) (by decide) (by decide)) (pe_one (pe_not (cI (T := "bool") (tn := "bool") hB mB (by decide +kernel) (by decide) (by decide)))))), ?_⟩
  have s0 : (L2.start [y] [V.int z])[0]? = some (some (V.int z)) := rfl
  refine ⟨_, s0, .int z, .ty "int", .type "int", .type "int", true, rfl, .ty "int", .base (.int z), kit_of' (by decide) (by decide), true, rfl, ?_⟩
  rw [if_pos rfl]
  exact ⟨_, s0, .int z, .ty "bool", .type "int", .type "bool", false, rfl, .ty "bool", .base (.int z), kit_of' (by decide) (by decide), false, rfl, hq⟩
end
/-! ### the suites -/
section
variable {X : Cx} {i : Nat} {C S : Addr} {en n S0 isI : Str}
/-- what a suite needs -/
structure SuiT (X : Cx) (i : Nat) (C : Addr) (en : Str) : Prop where
  hi : X.N[i]? = some en
  vis : X.env.scope.names.lookup en = some .local
  d1 : (en == ("__debug__" : Str)) = false
  d2 : (en == ("__classdict__" : Str)) = false
  E : ExcD X.K C
/-- e.n -/
theorem su_fld {a : Addr} {oe : Obj} {dd : Addr} {pn : List (Addr × Obj)} {v : V} {p pos : Pos} (T : SuiT X i C en) (hno : PySem.W.findIn X.K (.ref C) n = some none) (hz : Zc (.ref C) (some dd) oe) (hf : ∃ vs, oe.data = .fields vs) :
    PE (X.suite a ((a, oe) :: pn)) (.Attribute (.Name en p) n pos) (fun σ H Q => σ[i]? = some (some (.ref a)) ∧ H dd = some (.xd [(n, v)]) ∧ Q v H) := by
  refine pe_weak (pe_xf (C := C) ⟨T.E.hg, T.E.hk, T.E.hs, T.E.hd⟩ hno hz hf (pe_var (X := X.suite a ((a, oe) :: pn)) T.hi (.inl T.vis) T.d1 T.d2) (by rfl)) fun σ H Q ⟨h1, h2, q⟩ => ?_
  exact ⟨_, h1, rfl, rfl, dd, _, v, rfl, h2, by simp [List.lookup], q⟩
/-- isinstance(e, S) -/
theorem su_is {a : Addr} {oe : Obj} {d : Option Addr} {pn : List (Addr × Obj)} {p1 p2 p3 p4 : Pos} {b : Bool} (T : SuiT X i C en) (gI : Gl X "isinstance") (mI : X.mg "isinstance" = none) {cv : Value} {c : V} (hc : PE (X.suite a ((a, oe) :: pn)) (.Name S0 p3) (tC c)) (hcv : ∀ u, RelV c u → u = cv)
    (hk : PySem.W.kitOne X.K (.ref C) cv = some b) (hz : Zc (.ref C) d oe) (hf : ∃ vs, oe.data = .fields vs) :
    PE (X.suite a ((a, oe) :: pn)) (.Call (.Name "isinstance" p1) [.Name en p2, .Name S0 p3] [] p4) (fun σ H Q => σ[i]? = some (some (.ref a)) ∧ (d = none ∨ ∃ dd fs, d = some dd ∧ H dd = some (.xd fs)) ∧ Q (.bl b) H) := by
  refine pe_weak (pe_callB (X := X.suite a ((a, oe) :: pn)) (call_isX T.E hz hf) gI mI (by decide +kernel) (pa_cons (pe_var (X := X.suite a ((a, oe) :: pn)) T.hi (.inl T.vis) T.d1 T.d2) (pa_cons hc pa_nil)) (by decide) (by decide)) fun σ H Q ⟨h1, h2, q⟩ => ?_
  exact ⟨_, h1, c, cv, b, rfl, hcv, hk, h2, q⟩
/-- is_integer(e.n) -/
theorem su_int {a : Addr} {oe : Obj} {dd : Addr} {pn : List (Addr × Obj)} {z : Int} {p1 p2 p3 p4 : Pos} {f : Addr} {fd : FuncData} {y : Str} {k : Nat} (T : SuiT X i C en) (hno : PySem.W.findIn X.K (.ref C) n = some none) (gF : Gl X isI) (dF : (isI == ("__debug__" : Str)) = false)
    (mF : X.mg isI = some (.ref f)) (kF : PySem.W.keepIn X.K (.ref f) = true) (bF : Binds X.K fd [y] []) (F : L2H.FnH X.prog X.w X.K X.mg X.base (L2N.CX X.prog X.w) k f fd [y] spIsInt) (hr : Room k X.A) (hz : L2N.Zn (.ref C) (some dd) oe) (hf : ∃ vs, oe.data = .fields vs) :
    PE (X.suite a ((a, oe) :: pn)) (.Call (.Name isI p1) [.Attribute (.Name en p2) n p3] [] p4) (fun σ H Q => σ[i]? = some (some (.ref a)) ∧ H dd = some (.xd [(n, .int z)]) ∧ Q (.bl true) H) := by
  have hot : L2H.HotC (X.suite a ((a, oe) :: pn)) := by
    obtain ⟨vs, hv⟩ := hf
    exact ⟨(a, oe), ⟨rfl, vs, hv, hz.2.2 vs hv⟩, List.mem_cons_self⟩
  have hr' : L2H.RoomH k (X.suite a ((a, oe) :: pn)).A := ⟨by have := hr.dp; exact this, by have := hr.un; exact this⟩
  refine pe_weak (L2H.pe_callH (X := X.suite a ((a, oe) :: pn)) (E := fun _ _ _ _ => False) F hr' hot gF mF kF bF (fun σ pins H s e s' _ c => ?_) (pa_cons (su_fld (v := .int z) T hno hz.zc hf) pa_nil) dF) fun σ H Q ⟨h1, h2, q⟩ => ⟨h1, h2, z, rfl, q⟩
  obtain ⟨_, _, _, _, _, _, _, _, _, _, _, _, zz⟩ := c
  exact zz.elim
end
end MP
/-! MX5: the suites as statements -/
namespace MP
open PySem PySem.Spec L2
/-- the field, an int, put behind a tag -/
def sdTup (n : Str) (tag : List Nat) : Option (Str × D) → Option D
  | some (f, .int z) => if f = n then some (.tup [.str tag, .int z]) else none
  | _ => none
def sdInt (n : Str) : Option (Str × D) → Option D
  | some (f, .int z) => if f = n then some (.int z) else none
  | _ => none
def sdNone (r : D) : Option (Str × D) → Option D
  | none => some r
  | _ => none
section
variable {X : Cx} {i : Nat} {C : Addr} {en n S0 isI : Str}
theorem su_pss {sd : Option (Str × D) → Option D} {a : Addr} {d : Option Addr} {pn : List (Addr × Obj)} {suite : List Stmt} (hi : X.N[i]? = some en)
    (h : ∀ (De : Ends) (σ : L2.St) (H : Hp) (μ : List Addr) (I : MH) (fl : Option (Str × D)) (r : D), σ[i]? = some (some (.ref a)) → Ok X.K X.mg μ I H → FldAt X.K μ I H d fl → sd fl = some r → (∀ μ' H' v, Ext μ I H μ' I H' → Ok X.K X.mg μ' I H' → RV X.K μ' I H' r v → De.rt v H') →
      ∃ t, PSs (X.suite a pn) suite t ∧ t De σ H) : PSs (X.suite a pn) suite (tSu X i sd a d) := by
  refine ⟨fun pins s σ H De I q => ?_⟩
  obtain ⟨h1, μ, J, fl, r, ok, hfl, hs, hq⟩ := q
  have hl : i < σ.length := by rw [I.len]; exact (List.getElem?_eq_some_iff.mp hi).1
  obtain ⟨t, ht, q⟩ := h De σ H μ J fl r (h1 hl) ok hfl hs hq
  exact ht.run pins s σ H De I q
/-- not is_integer(e.n) or not isinstance(e, S): not so -/
theorem su_test {a : Addr} {oe : Obj} {dd : Addr} {pn : List (Addr × Obj)} {z : Int} {p1 p2 p3 p4 p5 p6 p7 p8 p9 p10 p11 : Pos} {f S : Addr} {fd : FuncData} {y : Str} {k : Nat} (T : SuiT X i C en) (hno : PySem.W.findIn X.K (.ref C) n = some none) (gF : Gl X isI) (dF : (isI == ("__debug__" : Str)) = false)
    (mF : X.mg isI = some (.ref f)) (kF : PySem.W.keepIn X.K (.ref f) = true) (bF : Binds X.K fd [y] []) (F : L2H.FnH X.prog X.w X.K X.mg X.base (L2N.CX X.prog X.w) k f fd [y] spIsInt) (hr : Room k X.A)
    (gI : Gl X "isinstance") (mI : X.mg "isinstance" = none) (gS : Gl X S0) (mS : X.mg S0 = some (.ref S)) (dS : (S0 == ("__debug__" : Str)) = false) (hk : PySem.W.kitOne X.K (.ref C) (.ref S) = some true) (hz : L2N.Zn (.ref C) (some dd) oe) (hf : ∃ vs, oe.data = .fields vs) :
    PT (X.suite a ((a, oe) :: pn)) (.BoolOp .Or [.UnaryOp .Not (.Call (.Name isI p1) [.Attribute (.Name en p2) n p3] [] p4) p5, .UnaryOp .Not (.Call (.Name "isinstance" p6) [.Name en p7, .Name S0 p8] [] p9) p10] p11)
      (fun σ H Q => σ[i]? = some (some (.ref a)) ∧ H dd = some (.xd [(n, .int z)]) ∧ Q false H) := by
  have hS : PE (X.suite a ((a, oe) :: pn)) (.Name S0 p8) (tC (.ref S)) := pe_glob (X := X.suite a ((a, oe) :: pn)) gS mS rfl dS
  have h := (pw_or (pt_not (pos := p5) (pt_truth (su_int (z := z) (p1 := p1) (p2 := p2) (p3 := p3) (p4 := p4) (pn := pn) (a := a) T hno gF dF mF kF bF F hr hz hf) (plain_test rfl))) (pw_or1 (pt_not (pos := p10) (pt_truth (su_is (p1 := p6) (p2 := p7) (p3 := p8) (p4 := p9) T gI mI hS (fun u r => r) hk hz.zc hf) (plain_test rfl)))) (pos := p11)).pt
  refine pt_weak h fun σ H Q ⟨h1, h2, q⟩ => ?_
  exact ⟨h1, h2, true, rfl, h1, .inr ⟨dd, _, rfl, h2⟩, true, rfl, q⟩
theorem su_tupE {a : Addr} {oe : Obj} {dd : Addr} {pn : List (Addr × Obj)} {z : Int} {j m : Nat} {p2 p3 p4 pos : Pos} {g : Str} (T : SuiT X i C en) (hno : PySem.W.findIn X.K (.ref C) n = some none) (hz : L2N.Zn (.ref C) (some dd) oe) (hf : ∃ vs, oe.data = .fields vs) :
    PE (X.suite a ((a, oe) :: pn)) (.Tuple [.Constant (.str g) j p2, .Attribute (.Name en p3) n p4] m pos) (fun σ H Q => σ[i]? = some (some (.ref a)) ∧ H dd = some (.xd [(n, .int z)]) ∧ ∀ q, H q = none → Q (.ref q) (upd H q (.tup [.str g, .int z]))) := by
  refine pe_weak (pe_tup (pa_cons pe_str (pa_cons (su_fld (v := .int z) (a := a) (pn := pn) (p := p3) (pos := p4) T hno hz.zc hf) pa_nil))) fun σ H Q ⟨h1, h2, q⟩ => ?_
  exact ⟨h1, h2, by rw [sizeLine_eq]; exact (by decide : 2 ≤ 16777216), q⟩
theorem tup_fin {μ : List Addr} {I : MH} {H : Hp} {q : Addr} {g : Str} {tag : List Nat} {z : Int} {De : Ends} (ok : Ok X.K X.mg μ I H) (hg : toS tag = g) (hq : H q = none) (h : ∀ μ' H' v, Ext μ I H μ' I H' → Ok X.K X.mg μ' I H' → RV X.K μ' I H' (.tup [.str tag, .int z]) v → De.rt v H') : De.rt (.ref q) (upd H q (.tup [.str g, .int z])) :=
  h μ _ _ (Ext.same (same_upd hq)) (ok.same (same_upd hq)) (rv_tup (X := X) ok hq ⟨.str g, _, rfl, by show V.str g = V.str (toS tag); rw [hg], .int z, _, rfl, rfl, rfl⟩)
/-- if not is_integer(e.n) or not isinstance(e, S): return (..) / return ('g', e.n) -/
theorem su_A {p1 p2 p3 p4 p5 p6 p7 p8 p9 p10 p11 q1 q2 q3 q4 r1 r2 r3 r4 r5 : Pos} {j1 m1 j2 m2 : Nat} {g g' : Str} {tag : List Nat} {f S : Addr} {fd : FuncData} {y : Str} {k : Nat} (T : SuiT X i C en) (hno : PySem.W.findIn X.K (.ref C) n = some none) (gF : Gl X isI) (dF : (isI == ("__debug__" : Str)) = false)
    (mF : X.mg isI = some (.ref f)) (kF : PySem.W.keepIn X.K (.ref f) = true) (bF : Binds X.K fd [y] []) (F : L2H.FnH X.prog X.w X.K X.mg X.base (L2N.CX X.prog X.w) k f fd [y] spIsInt) (hr : Room k X.A)
    (gI : Gl X "isinstance") (mI : X.mg "isinstance" = none) (gS : Gl X S0) (mS : X.mg S0 = some (.ref S)) (dS : (S0 == ("__debug__" : Str)) = false) (hk : PySem.W.kitOne X.K (.ref C) (.ref S) = some true) (hg : toS tag = g) :
    SuiteOk X i C [.If (.BoolOp .Or [.UnaryOp .Not (.Call (.Name isI p1) [.Attribute (.Name en p2) n p3] [] p4) p5, .UnaryOp .Not (.Call (.Name "isinstance" p6) [.Name en p7, .Name S0 p8] [] p9) p10] p11) [.Return (some (.Tuple [.Constant (.str g') j1 q1] m1 q2)) q3] [] q4,
      .Return (some (.Tuple [.Constant (.str g) j2 r1, .Attribute (.Name en r2) n r3] m2 r4)) r5] (sdTup n tag) := by
  intro a oe d pn hz hf
  refine su_pss T.hi fun De σ H μ I fl r h1 ok hfl hs hq => ?_
  unfold sdTup at hs
  split at hs
  · rename_i n' z
    split at hs
    · rename_i e
      cases e
      cases hs
      obtain ⟨dd, v, rfl, ha, rv⟩ := hfl
      obtain rfl : v = .int z := rv
      refine ⟨_, pss_cons (ps_if (su_test (z := z) T hno gF dF mF kF bF F hr gI mI gS mS dS hk hz hf) (pss_one (ps_ret (pe_tup (pa_cons pe_str pa_nil)))) pss_nil) (pss_one (ps_ret (su_tupE (z := z) T hno hz hf))), ?_⟩
      refine ⟨h1, ha, ?_⟩
      exact iteF (show tNext _ σ H from ⟨h1, ha, fun q hq' => tup_fin ok hg hq' hq⟩)
    · cases hs
  · cases hs
/-- return ('g', e.n) -/
theorem su_B {r1 r2 r3 r4 r5 : Pos} {j2 m2 : Nat} {g : Str} {tag : List Nat} (T : SuiT X i C en) (hno : PySem.W.findIn X.K (.ref C) n = some none) (hg : toS tag = g) :
    SuiteOk X i C [.Return (some (.Tuple [.Constant (.str g) j2 r1, .Attribute (.Name en r2) n r3] m2 r4)) r5] (sdTup n tag) := by
  intro a oe d pn hz hf
  refine su_pss T.hi fun De σ H μ I fl r h1 ok hfl hs hq => ?_
  unfold sdTup at hs
  split at hs
  · rename_i n' z
    split at hs
    · rename_i e
      cases e
      cases hs
      obtain ⟨dd, v, rfl, ha, rv⟩ := hfl
      obtain rfl : v = .int z := rv
      exact ⟨_, pss_one (ps_ret (su_tupE (z := z) T hno hz hf)), h1, ha, fun q hq' => tup_fin ok hg hq' hq⟩
    · cases hs
  · cases hs
end
end MP
/-! MX6: words for the text parts -/
namespace MP
open PySem PySem.Spec L2
def tryB : List Stmt → List Stmt
  | [.Try body _ _ _ _] => body
  | _ => []
section
variable {P : Program} {w : World} {K : PySem.W.Frag} {mg : Str → Option Value} {base : Heap} {k : Nat}
/-- all the defs of a table -/
def AllF (P : Program) (w : World) (K : PySem.W.Frag) (mg : Str → Option Value) (base : Heap) (k : Nat) : List (Str × Nat × FF) → Prop
  | [] => True
  | q :: l => FnSim P w K mg base k q.1 q.2.1 q.2.2 ∧ AllF P w K mg base k l
theorem AllF.get : ∀ {l : List (Str × Nat × FF)}, AllF P w K mg base k l → ∀ x n F, l.lookup x = some (n, F) → FnSim P w K mg base k x n F
  | [], _, x, n, F, h => by cases h
  | q :: l, ⟨a, b⟩, x, n, F, h => by
    obtain ⟨y, m, G⟩ := q
    rw [List.lookup_cons] at h
    split at h
    · rename_i e
      cases h
      rw [eq_of_beq e]; exact a
    · exact AllF.get b x n F h
/-- a constant that the module holds -/
def CstOk (K : PySem.W.Frag) (mg : Str → Option Value) (x : Str) (d : D) : Prop := ∃ u v, mg x = some u ∧ RelV v u ∧ ∀ μ I H, RV K μ I H d v
def AllC (K : PySem.W.Frag) (mg : Str → Option Value) : List (Str × D) → Prop
  | [] => True
  | q :: l => CstOk K mg q.1 q.2 ∧ AllC K mg l
theorem AllC.get : ∀ {l : List (Str × D)}, AllC K mg l → ∀ x d, l.lookup x = some d → CstOk K mg x d
  | [], _, x, d, h => by cases h
  | q :: l, ⟨a, b⟩, x, d, h => by
    obtain ⟨y, m⟩ := q
    rw [List.lookup_cons] at h
    split at h
    · rename_i e
      cases h
      rw [eq_of_beq e]; exact a
    · exact AllC.get b x d h
def AllB (mg : Str → Option Value) : List Str → Prop
  | [] => True
  | x :: l => mg x = none ∧ AllB mg l
theorem AllB.get : ∀ {l : List Str}, AllB mg l → ∀ x, l.contains x = true → mg x = none
  | [], _, x, h => by cases h
  | y :: l, ⟨a, b⟩, x, h => by
    rw [List.contains_cons] at h
    rcases Bool.or_eq_true_iff.mp h with e | e
    · rw [eq_of_beq e]; exact a
    · exact AllB.get b x e
def AllX (P : Program) (w : World) (K : PySem.W.Frag) (mg : Str → Option Value) (base : Heap) (k : Nat) : List (Str × Option Str) → Prop
  | [] => True
  | q :: l => RaiseOk P w K mg base k q.1 q.2 ∧ AllX P w K mg base k l
theorem AllX.get : ∀ {l : List (Str × Option Str)}, AllX P w K mg base k l → ∀ x d, l.lookup x = some d → RaiseOk P w K mg base k x d
  | [], _, x, d, h => by cases h
  | q :: l, ⟨a, b⟩, x, d, h => by
    obtain ⟨y, m⟩ := q
    rw [List.lookup_cons] at h
    split at h
    · rename_i e
      cases h
      rw [eq_of_beq e]; exact a
    · exact AllX.get b x d h
def AllCl (K : PySem.W.Frag) (mg : Str → Option Value) : List (Str × List Str) → Prop
  | [] => True
  | q :: l => ClsOk K mg q.1 q.2 ∧ AllCl K mg l
theorem AllCl.get : ∀ {l : List (Str × List Str)}, AllCl K mg l → ∀ x d, l.lookup x = some d → ClsOk K mg x d
  | [], _, x, d, h => by cases h
  | q :: l, ⟨a, b⟩, x, d, h => by
    obtain ⟨y, m⟩ := q
    rw [List.lookup_cons] at h
    split at h
    · rename_i e
      cases h
      rw [eq_of_beq e]; exact a
    · exact AllCl.get b x d h
def AllMt (P : Program) (w : World) (K : PySem.W.Frag) (mg : Str → Option Value) (base : Heap) (k : Nat) : List ((Str × Str) × Nat × FF) → Prop
  | [] => True
  | q :: l => MthSim P w K mg base k q.1.1 q.1.2 q.2.1 q.2.2 ∧ AllMt P w K mg base k l
theorem AllMt.get : ∀ {l : List ((Str × Str) × Nat × FF)}, AllMt P w K mg base k l → ∀ c m n F, l.lookup (c, m) = some (n, F) → MthSim P w K mg base k c m n F
  | [], _, c, m, n, F, h => by cases h
  | q :: l, ⟨a, b⟩, c, m, n, F, h => by
    obtain ⟨⟨c', m'⟩, n', G⟩ := q
    rw [List.lookup_cons] at h
    split at h
    · rename_i e
      cases h
      have e' := eq_of_beq e
      cases e'
      exact a
    · exact AllMt.get b c m n F h
def AllMk (P : Program) (w : World) (K : PySem.W.Frag) (mg : Str → Option Value) (base : Heap) (k : Nat) : List (Str × Nat × FF) → Prop
  | [] => True
  | q :: l => (∃ j, j + 1 ≤ k ∧ MakeSim P w K mg base j q.1 q.2.1 q.2.2) ∧ AllMk P w K mg base k l
theorem AllMk.get : ∀ {l : List (Str × Nat × FF)}, AllMk P w K mg base k l → ∀ c n F, l.lookup c = some (n, F) → ∃ j, j + 1 ≤ k ∧ MakeSim P w K mg base j c n F
  | [], _, c, n, F, h => by cases h
  | q :: l, ⟨a, b⟩, c, n, F, h => by
    obtain ⟨y, m, G⟩ := q
    rw [List.lookup_cons] at h
    split at h
    · rename_i e
      cases h
      rw [eq_of_beq e]; exact a
    · exact AllMk.get b c n F h
def AllKd (K : PySem.W.Frag) (w : World) (mg : Str → Option Value) : List (Str × List (List Nat × D)) → Prop
  | [] => True
  | q :: l => KdOk K w mg q.1 q.2 ∧ AllKd K w mg l
theorem AllKd.get : ∀ {l : List (Str × List (List Nat × D))}, AllKd K w mg l → ∀ x d, l.lookup x = some d → KdOk K w mg x d
  | [], _, x, d, h => by cases h
  | q :: l, ⟨a, b⟩, x, d, h => by
    obtain ⟨y, m⟩ := q
    rw [List.lookup_cons] at h
    split at h
    · rename_i e
      cases h
      rw [eq_of_beq e]; exact a
    · exact AllKd.get b x d h
/-- all that a def's context leans on -/
structure AllT (P : Program) (w : World) (K : PySem.W.Frag) (mg : Str → Option Value) (base : Heap) (k : Nat) (C : CC) : Prop where
  f : AllF P w K mg base k C.fns
  c : AllC K mg C.cst
  b : AllB mg C.blt
  x : AllX P w K mg base k C.exs
  cl : AllCl K mg C.cls
  mt : AllMt P w K mg base k C.mth
  ma : AllMk P w K mg base k C.mks
  kd : AllKd K w mg C.kds
theorem AllT.mdl {C : CC} (a : AllT P w K mg base k C) : Mdl P w K mg base k C := ⟨a.f.get, a.c.get, a.b.get, a.cl.get, a.mt.get, a.ma.get, a.kd.get⟩
/-- what the written part tells of a def -/
def FunT (K : PySem.W.Frag) (mg : Str → Option Value) (x qual : Str) (st : Stmt) (ps : List Str) : Prop := ∃ f fd, mg x = some (.ref f) ∧ PySem.W.keepIn K (.ref f) = true ∧ Fun K x qual st f fd ∧ Binds K fd ps []
theorem sim_mk {x qual : Str} {st : Stmt} {ps N : List Str} {C : CC} {body : SF} {m n : Nat} (T : FunT K mg x qual st ps) (ho : defOk N ps (defScope st) = true) (hC : C.sc = defScope st ∧ C.N = N) (hb : cSs n C (defBody st) = some body) (hm : ps.length = m ∧ N.length = m')
    (A : AllT P w K mg base k C) : FnSim P w K mg base (k + 1) x m (runDef m' body) := by
  obtain ⟨f, fd, h1, h2, h3, h4⟩ := T
  obtain ⟨rfl, rfl⟩ := hm
  exact ⟨f, fd, ps, h1, h2, h4, fn_sim h3 ho hC hb A.mdl A.x.get⟩
/-- what the written part tells of a method; of an __init__ -/
def MthT (K : PySem.W.Frag) (mg : Str → Option Value) (c x qual : Str) (st : Stmt) (ps : List Str) : Prop := ∃ C f fd, mg c = some (.ref C) ∧ Cls K C ∧ Meth K C x f ∧ Fun K x qual st f fd ∧ Binds K fd ps []
def MkT (K : PySem.W.Frag) (mg : Str → Option Value) (c qual : Str) (st : Stmt) (ps : List Str) : Prop := ∃ C f fd, mg c = some (.ref C) ∧ Mk K C f ∧ Fun K "__init__" qual st f fd ∧ Binds K fd ps []
theorem mth_mk {c x qual : Str} {st : Stmt} {ps N : List Str} {C : CC} {body : SF} {m n : Nat} (T : MthT K mg c x qual st ps) (ho : defOk N ps (defScope st) = true) (hC : C.sc = defScope st ∧ C.N = N) (hb : cSs n C (defBody st) = some body) (hm : ps.length = m ∧ N.length = m')
    (A : AllT P w K mg base k C) : MthSim P w K mg base (k + 1) c x m (runDef m' body) := by
  obtain ⟨Ca, f, fd, h1, h2, h3, h4, h5⟩ := T
  obtain ⟨rfl, rfl⟩ := hm
  exact ⟨Ca, f, fd, ps, h1, h2, h3, h5, fn_sim h4 ho hC hb A.mdl A.x.get⟩
theorem make_mk {c qual : Str} {st : Stmt} {ps N : List Str} {C : CC} {body : SF} {m n : Nat} (T : MkT K mg c qual st ps) (ho : defOk N ps (defScope st) = true) (hC : C.sc = defScope st ∧ C.N = N) (hb : cSs n C (defBody st) = some body) (hm : ps.length = m ∧ N.length = m')
    (A : AllT P w K mg base k C) : MakeSim P w K mg base (k + 1) c m (runDef m' body) := by
  obtain ⟨Ca, f, fd, h1, h2, h3, h4⟩ := T
  obtain ⟨rfl, rfl⟩ := hm
  exact ⟨Ca, f, fd, ps, h1, h2, h4, fn_sim h3 ho hC hb A.mdl A.x.get⟩
/-! a def that is not run -/
theorem fn_stuck {x : Str} {st : Stmt} {qual : Str} {ps : List Str} {m : Nat} (T : FunT K mg x qual st ps) (hm : ps.length = m) : FnSim P w K mg base k x m (fun _ _ => .stuck) := by
  obtain ⟨f, fd, h1, h2, h3, h4⟩ := T
  exact ⟨f, fd, ps, h1, h2, h4, ⟨fun vs H Q E z => by rw [z.1, hm], fun A outer s H args us vs Q E _ _ _ _ z => by
    obtain ⟨_, μ, I, ds, _, _, p⟩ := z
    exact p.elim⟩⟩
theorem mth_stuck {c x : Str} {st : Stmt} {qual : Str} {ps : List Str} {m : Nat} (T : MthT K mg c x qual st ps) (hm : ps.length = m) : MthSim P w K mg base k c x m (fun _ _ => .stuck) := by
  obtain ⟨C, f, fd, h1, h2, h3, h4, h5⟩ := T
  exact ⟨C, f, fd, ps, h1, h2, h3, h5, ⟨fun vs H Q E z => by rw [z.1, hm], fun A outer s H args us vs Q E _ _ _ _ z => by
    obtain ⟨_, μ, I, ds, _, _, p⟩ := z
    exact p.elim⟩⟩
/-- the i-th member of a class's text -/
def mbr (st : Stmt) (i : Nat) : Stmt := match st with
  | .ClassDef _ _ _ body _ _ _ _ _ _ _ => body.getD i (.Pass ⟨0, 0, 0, 0⟩)
  | _ => .Pass ⟨0, 0, 0, 0⟩
end
end MP
/-! MX7: defs with try; the head -/
namespace MP
open PySem PySem.Spec L2
section
variable {P : Program} {w : World} {K : PySem.W.Frag} {mg : Str → Option Value} {base : Heap} {k : Nat}
theorem sim_try {xf qual x en : Str} {st : Stmt} {ps N : List Str} {C : CC} {f : SF} {m m' n i : Nat} {Ca : Addr} {b₀ : Stmt} {body suite : List Stmt} {np pos pos' : Pos} {sd : Option (Str × D) → Option D} (T : FunT K mg xf qual st ps) (ho : defOk N ps (defScope st) = true) (hC : C.sc = defScope st ∧ C.N = N)
    (hB : defBody st = [.Try body [.ExceptHandler (some (.Name x np)) (some en) (b₀ :: suite) pos'] [] [] pos]) (hb : cSs n C (tryB (defBody st)) = some f) (hm : ps.length = m ∧ N.length = m')
    (A : AllT P w K mg base k C)
    (hi : N[i]? = some en) (hln : (defScope st).names.lookup en = some .local) (hg : (defScope st).names.lookup x = some .globalImplicit) (hd : (x == ("__debug__" : Str)) = false) (gC : mg x = some (.ref Ca)) (hex : PySem.W.exmOne K (.ref Ca) (.ref Ca) = some true)
    (hsu : ∀ (X : Cx), X.prog = P → X.w = w → X.K = K → X.mg = mg → X.base = base → X.env.scope = defScope st → X.N = N → Room k X.A → SuiteOk X i Ca (b₀ :: suite) sd) :
    FnSim P w K mg base (k + 1) xf m (runDef m' (seqS (tryS x sd f) nxS)) := by
  obtain ⟨fa, fd, h1, h2, h3, h4⟩ := T
  obtain ⟨rfl, rfl⟩ := hm
  rw [hB] at hb
  refine ⟨fa, fd, ps, h1, h2, h4, fn_simG h3 ho hC A.mdl A.x.get fun X W M D0 e1 e2 e3 e4 e5 => ?_⟩
  rw [hB]
  have hsc : X.env.scope = defScope st := M.sc.trans hC.1
  have hN : X.N = N := M.N.trans hC.2
  refine ss_cons (ss_try D0 (by rw [hN, ← hC.2]; exact M.nd) (by rw [hN]; exact hi) (by show X.env.scope.names.lookup en = _; rw [hsc]; exact hln) ⟨by show X.env.scope.names.lookup x = _; rw [hsc]; exact hg, hd, .inl (by rw [e4]; exact gC)⟩ (by rw [e4]; exact gC) (by rw [e3]; exact hex) M.tk
    (fun W' pn xe tk own => (cSS_ok n).2 (X.tr pn xe) C W' k { sc := M.sc, N := M.N, nd := M.nd, calm := M.calm, room := M.room, tk := tk, isDef := M.isDef, mdl := M.mdl, flat := trivial, own := own, raises := M.raises } _ _ hb) (hsu X e1 e2 e3 e4 e5 hsc hN M.room)) ss_nil
/-! ### the head's facts -/
theorem fnt_mk {x qual : Str} {st : Stmt} {ps : List Str} {h : Heap} {f : Addr} {oc : Value} {od an : Option Addr} {osl : Array (Option Value)} {kV doc pm cdv ct : Value} (X : K.In h) (G : h.Ns mainGlobals mg) (a : PySem.W.nsIn K mainGlobals x = some (some (.ref f)))
    (l : K.lookup f = some ⟨oc, od, .func (PySem.W.fnOf x qual (defArgs st) (defBody st) (defScope st) .none kV doc pm an cdv ct), osl⟩) (c : PySem.W.codeIn K cdv qual = true) (k : PySem.W.keepIn K (.ref f) = true)
    (hb : ∀ (kV doc pm : Value) (an : Option Addr) (cdv ct : Value) (us : List Value), us.length = ps.length → bindArgs (PySem.W.fnOf x qual (defArgs st) (defBody st) (defScope st) .none kV doc pm an cdv ct) ⟨us, []⟩ = pure (ps.zip us)) : FunT K mg x qual st ps :=
  ⟨f, _, PySem.W.mg_of X G a, k, fun_mk l c k, (fun_mk l c k).binds hb⟩
theorem cst_str {x s : Str} {t : Tok} {d : List Nat} {h : Heap} (X : K.In h) (G : h.Ns mainGlobals mg) (a : PySem.W.nsIn K mainGlobals x = some (some (.str s t))) (e : toS d = s) : CstOk K mg x (.str d) :=
  ⟨_, .str s, PySem.W.mg_of X G a, ⟨t, rfl⟩, fun μ I H => by show V.str s = V.str (toS d); rw [e]⟩
theorem cst_int {x : Str} {z : Int} {t : Tok} {h : Heap} (X : K.In h) (G : h.Ns mainGlobals mg) (a : PySem.W.nsIn K mainGlobals x = some (some (.int z t))) : CstOk K mg x (.int z) :=
  ⟨_, .int z, PySem.W.mg_of X G a, ⟨t, rfl⟩, fun μ I H => rfl⟩
def AllNo (K : PySem.W.Frag) (C : Addr) : List Str → Prop
  | [] => True
  | n :: l => NoAttr K C n ∧ AllNo K C l
theorem AllNo.get {C : Addr} : ∀ {l : List Str}, AllNo K C l → ∀ n, l.contains n = true → NoAttr K C n
  | [], _, n, h => by cases h
  | y :: l, ⟨a, b⟩, n, h => by
    rw [List.contains_cons] at h
    rcases Bool.or_eq_true_iff.mp h with e | e
    · rw [eq_of_beq e]; exact a
    · exact AllNo.get b n e
theorem cls_mk {c : Str} {C : Addr} {as : List Str} {h : Heap} (X : K.In h) (G : h.Ns mainGlobals mg) (a : PySem.W.nsIn K mainGlobals c = some (some (.ref C))) (k : Cls K C) (no : AllNo K C as) : ClsOk K mg c as :=
  ⟨C, PySem.W.mg_of X G a, k, fun n z => AllNo.get no n z⟩
theorem mtt_mk {c x qual : Str} {st : Stmt} {ps : List Str} {h : Heap} {C f : Addr} {oc : Value} {od an : Option Addr} {osl : Array (Option Value)} {kV doc pm cdv ct : Value} (X : K.In h) (G : h.Ns mainGlobals mg) (a : PySem.W.nsIn K mainGlobals c = some (some (.ref C))) (cl : Cls K C)
    (i : PySem.W.findIn K (.ref C) x = some (some (.ref f))) (l : K.lookup f = some ⟨oc, od, .func (PySem.W.fnOf x qual (defArgs st) (defBody st) (defScope st) .none kV doc pm an cdv ct), osl⟩) (c' : PySem.W.codeIn K cdv qual = true) (k : PySem.W.keepIn K (.ref f) = true) (fn : PySem.W.isFn K (.ref f) = true)
    (hb : ∀ (kV doc pm : Value) (an : Option Addr) (cdv ct : Value) (us : List Value), us.length = ps.length → bindArgs (PySem.W.fnOf x qual (defArgs st) (defBody st) (defScope st) .none kV doc pm an cdv ct) ⟨us, []⟩ = pure (ps.zip us)) : MthT K mg c x qual st ps :=
  ⟨C, f, _, PySem.W.mg_of X G a, cl, ⟨i, fn, k⟩, fun_mk l c' k, (fun_mk l c' k).binds hb⟩
theorem mkt_mk {c qual : Str} {st : Stmt} {ps : List Str} {h : Heap} {C f : Addr} {oc : Value} {od an : Option Addr} {osl : Array (Option Value)} {kV doc pm cdv ct : Value} (X : K.In h) (G : h.Ns mainGlobals mg) (a : PySem.W.nsIn K mainGlobals c = some (some (.ref C)))
    (m : PySem.W.makesIn K C = true) (kc : PySem.W.keepIn K (.ref C) = true)
    (i : PySem.W.findIn K (.ref C) "__init__" = some (some (.ref f))) (l : K.lookup f = some ⟨oc, od, .func (PySem.W.fnOf "__init__" qual (defArgs st) (defBody st) (defScope st) .none kV doc pm an cdv ct), osl⟩) (c' : PySem.W.codeIn K cdv qual = true) (k : PySem.W.keepIn K (.ref f) = true) (fn : PySem.W.isFn K (.ref f) = true)
    (hb : ∀ (kV doc pm : Value) (an : Option Addr) (cdv ct : Value) (us : List Value), us.length = ps.length → bindArgs (PySem.W.fnOf "__init__" qual (defArgs st) (defBody st) (defScope st) .none kV doc pm an cdv ct) ⟨us, []⟩ = pure (ps.zip us)) : MkT K mg c qual st ps :=
  ⟨C, f, _, PySem.W.mg_of X G a, ⟨m, i, fn, kc⟩, fun_mk l c' k, (fun_mk l c' k).binds hb⟩
/-! ### the law -/
theorem FnOk.weak {CX : CXT} {f : Addr} {fd : FuncData} {ps : List Str} {sp sp' : Sp} (F : FnOk P w K mg base CX k f fd ps sp) (h : ∀ vs H Q E, sp' vs H Q E → sp vs H Q E) : FnOk P w K mg base CX k f fd ps sp' :=
  ⟨fun vs H Q E z => F.len vs H Q E (h _ _ _ _ z), fun A outer s H args us vs Q E hr e b v z => F.run A outer s H args us vs Q E hr e b v (h _ _ _ _ z)⟩
/-- what law(script) promises -/
def spLaw (K : PySem.W.Frag) : Sp := fun vs H Q _ => ∃ (a : Addr) (ns : List Int), vs = [.ref a] ∧ ScrAt K H a (ns.map V.int) ∧ ns.length ≤ 63 ∧ ∀ H', Q (.bl true) H'
theorem scr_at {H : Hp} {a : Addr} {xs : List V} (o : Only H) (h : SqL K H a xs) : ScrAt K H a xs := by
  rcases h with (h | ⟨ob, h⟩) | h
  · rcases o a with z | ⟨ob, ys, z⟩
    · rw [z] at h; cases h
    · rw [z] at h; cases h
  · exact .inl ⟨ob, h⟩
  · exact .inr h
theorem ok_nil {K : PySem.W.Frag} {mg : Str → Option Value} {H : Hp} : Ok K mg [] [] H := ⟨rfl, fun n m a c c' h => by simp at h, fun n c a h => by simp at h⟩
theorem sp_law {F : FF} (h : ∀ ns : List Int, ns.length ≤ 63 → ∃ I', F [.scr ns] [] = .ok (.bl true) I') {vs : List V} {H : Hp} {Q : VK} {E : XK} (z : spLaw K vs H Q E) : spSim K mg 1 F vs H Q E := by
  obtain ⟨a, ns, rfl, hs, hl, hq⟩ := z
  obtain ⟨I', e⟩ := h ns hl
  refine ⟨rfl, [], [], [.scr ns], ok_nil, ⟨.ref a, [], rfl, ⟨a, rfl, hs⟩, rfl⟩, ?_⟩
  rw [e]
  intro μ' H' _ _ v rv
  obtain rfl : v = .bl true := rv
  exact hq H'
theorem cxN_false {w : World} {P : Program} {H : Hp} {s : Shared} {e : Value} {s' : Shared} {outer : List Env} (z : L2N.CX P w outer H s (fun _ _ _ => False) e s') : False := by
  obtain ⟨_, _, _, _, _, _, _, _, _, _, _, _, zz⟩ := z
  exact zz
/-- the law's def: where it stands, how its argument binds -/
theorem law_mk {P : Program} {w : World} {fa : Addr} {x p : Str} {F : FF} {st : Stmt} {h : Heap} {f : Addr} {oc : Value} {od an : Option Addr} {osl : Array (Option Value)} {kV doc pm cdv ct : Value} (X : K.In h) (G : h.Ns mainGlobals mg) (hfa : mg x = some (.ref fa)) (a : PySem.W.nsIn K mainGlobals x = some (some (.ref f)))
    (l : K.lookup f = some ⟨oc, od, .func (PySem.W.fnOf x x (defArgs st) (defBody st) (defScope st) .none kV doc pm an cdv ct), osl⟩)
    (hb : ∀ (s : Shared) (u : Value), BindsTo s (PySem.W.fnOf x x (defArgs st) (defBody st) (defScope st) .none kV doc pm an cdv ct) ⟨[u], []⟩ [(p, u)])
    (hl : ∀ ns : List Int, ns.length ≤ 63 → ∃ I', F [.scr ns] [] = .ok (.bl true) I')
    (S : ∀ base : Heap, ∃ fd, FnOk P w K mg base (L2N.CX P w) k f fd [p] (spSim K mg 1 F) ∧ fd = PySem.W.fnOf x x (defArgs st) (defBody st) (defScope st) .none kV doc pm an cdv ct) :
    ∃ fd : FuncData, (∀ (s : Shared) (v : Value), BindsTo s fd ⟨[v], []⟩ [(p, v)]) ∧ ∀ base : Heap, K.In base → base.Ns mainGlobals mg → FnOk P w K mg base (L2N.CX P w) k fa fd [p] (spLaw K) := by
  have e := hfa.symm.trans (PySem.W.mg_of X G a)
  cases e
  refine ⟨_, hb, fun base _ _ => ?_⟩
  obtain ⟨fd, ok, e⟩ := S base
  subst e
  exact FnOk.weak ok fun vs H Q E z => sp_law hl z
end
end MP
/-! MX8: the written dicts at the head -/
namespace MP
open PySem PySem.Spec L2
section
variable {w : World} {K : PySem.W.Frag} {mg : Str → Option Value}
/-- a written value: a text, a number, nothing, or a tuple of such in the module -/
def KdV (K : PySem.W.Frag) (x : D) (u : Value) : Prop := ∃ v, RelV v u ∧ ∀ μ I H, RV K μ I H x v
def KdE (K : PySem.W.Frag) : List (List Nat × D) → List DictEntry → Prop
  | [], [] => True
  | q :: tb, e :: es => (∃ t, e.key = .str (toS q.1) t) ∧ KdV K q.2 e.val ∧ KdE K tb es
  | _, _ => False
theorem kd_find {z : List Nat} : ∀ {tb : List (List Nat × D)} {es : List DictEntry}, KdE K tb es →
    match tb.lookup z with
    | some x => ∃ e, es.find? (·.key.isStr (toS z)) = some e ∧ KdV K x e.val
    | none => es.find? (·.key.isStr (toS z)) = none
  | [], [], _ => rfl
  | q :: tb, e :: es, ⟨⟨t, ht⟩, hv, hr⟩ => by
    have ih := kd_find (z := z) hr
    obtain ⟨y, x⟩ := q
    by_cases hz : z = y
    · subst hz
      have e1 : e.key.isStr (toS z) = true := by rw [ht]; simp [Value.isStr]
      simp only [List.lookup_cons, beq_self_eq_true, List.find?_cons, e1]
      exact ⟨e, rfl, hv⟩
    · have e1 : e.key.isStr (toS z) = false := by
        rw [ht]
        have : toS y ≠ toS z := fun h => hz (toS_inj h).symm
        simpa [Value.isStr] using this
      have e2 : (z == y) = false := by simpa using hz
      simp only [List.lookup_cons, e2, List.find?_cons, e1]
      exact ih
theorem kd_mk {T : Str} {tb : List (List Nat × D)} {d : Addr} {es : List DictEntry} {n : Nat} {h : Heap} (X : K.In h) (G : h.Ns mainGlobals mg) (a : PySem.W.nsIn K mainGlobals T = some (some (.ref d)))
    (l : K.lookup d = some ⟨.type "dict", none, .dict ⟨es⟩ n, #[]⟩) (k : PySem.W.KeysLit w.params es) (lo : (d == sysModules) = false) (r : KdE K tb es) : KdOk K w mg T tb := by
  refine ⟨d, ⟨es⟩, n, PySem.W.mg_of X G a, ⟨l, k, lo⟩, fun z => ?_⟩
  have hf := kd_find (z := z) r
  have nr : es.any (·.refKey) = false := by
    rw [List.any_eq_false]
    intro e he
    obtain ⟨x, t, e1, _⟩ := k.all e he
    simp [DictEntry.refKey, e1]
  unfold PySem.W.nsIn
  rw [l]
  dsimp only
  cases hz : tb.lookup z with
  | some x =>
    rw [hz] at hf
    obtain ⟨e, he, v, h1, h2⟩ := hf
    dsimp only
    rw [he]
    exact ⟨e.val, v, rfl, h1, h2⟩
  | none =>
    rw [hz] at hf
    dsimp only at hf ⊢
    rw [hf, nr]; rfl
/-- the tuple of the module -/
theorem kdv_tup {xs : List D} {vs : List V} {us : List Value} {a : Addr} {od : Option Addr} {n : Nat} {sl : Array (Option Value)} (l : K.lookup a = some ⟨.type "tuple", od, .seq ⟨us⟩ n, sl⟩) (hs : us.length ≤ sizeLine) (hv : Vals vs us) (hx : ∀ μ I H, RVs K μ I H xs vs) : KdV K (.tup xs) (.ref a) :=
  ⟨.ref a, rfl, fun μ I H => ⟨a, vs, rfl, .inr ⟨_, _, _, l, rfl, rfl, hs, hv⟩, hx μ I H⟩⟩
end
end MP
/-! MXP: plain words about the readings -/
namespace MP
open PySem PySem.Spec L2
@[simp] theorem bind_ok {α β : Type} {a : α} {I : MH} {k : α → MH → Res β} : (Res.ok a I).bind k = k a I := rfl
@[simp] theorem bind_err {α β : Type} {x : Exn} {I : MH} {k : α → MH → Res β} : (Res.err x I : Res α).bind k = .err x I := rfl
@[simp] theorem bindS_ok {α : Type} {a : α} {I : MH} {k : α → MH → SRes} : (Res.ok a I).bindS k = k a I := rfl
@[simp] theorem bindS_err {α : Type} {x : Exn} {I : MH} {k : α → MH → SRes} : (Res.err x I : Res α).bindS k = .err x I := rfl
@[simp] theorem calm_ok {α : Type} {a : α} {I : MH} : (Res.ok a I).calm = .ok a I := rfl
@[simp] theorem optR_some {α : Type} {a : α} {I : MH} : optR I (some a) = .ok a I := rfl
theorem seqS_nx {f g : SF} {ρ ρ' : En} {I I' : MH} (h : f ρ I = .nx ρ' I') : seqS f g ρ I = g ρ' I' := by unfold seqS; rw [h]
theorem seqS_ret {f g : SF} {ρ : En} {I I' : MH} {d : D} (h : f ρ I = .ret d I') : seqS f g ρ I = .ret d I' := by unfold seqS; rw [h]
theorem seqS_err {f g : SF} {ρ : En} {I I' : MH} {x : Exn} (h : f ρ I = .err x I') : seqS f g ρ I = .err x I' := by unfold seqS; rw [h]
theorem trim_len {I I' : MH} {d : D} (h : I'.length = I.length) : trim I d I' = I' := by
  unfold trim
  split
  · rw [← h, List.take_length]
  · rfl
theorem trim_self {I : MH} {d : D} : trim I d I = I := trim_len rfl
theorem run_ret {n : Nat} {b : SF} {ds : List D} {I I' : MH} {d : D} (h : b (ds.map some ++ List.replicate (n - ds.length) none) I = .ret d I') : runDef n b ds I = fin I d I' := by unfold runDef; rw [h]
theorem run_err {n : Nat} {b : SF} {ds : List D} {I I' : MH} {x : Exn} (h : b (ds.map some ++ List.replicate (n - ds.length) none) I = .err x I') : runDef n b ds I = .err x (trim I ((x.fld.map (·.2)).getD .non) I') := by unfold runDef; rw [h]
/-- a value without cells -/
def imm : D → Bool
  | .loc _ => false
  | .tup [.str _, .loc _] => false
  | _ => true
theorem fin_imm {I I' : MH} {d : D} (h : imm d = true) : fin I d I' = .ok d (trim I d I') := by
  unfold fin
  split
  · cases h
  · cases h
  · rfl
theorem while_no {t : TF} {b : SF} {n : Nat} {ρ : En} {I I1 : MH} (h : t ρ I = .ok false I1) : whileN t b (n + 1) ρ I = .nx ρ I1 := by
  show (t ρ I).bindS _ = _
  rw [h, bindS_ok, if_neg Bool.false_ne_true]
theorem while_nx {t : TF} {b : SF} {n : Nat} {ρ ρ2 : En} {I I1 I2 : MH} (h : t ρ I = .ok true I1) (hb : b ρ I1 = .nx ρ2 I2) : whileN t b (n + 1) ρ I = whileN t b n ρ2 I2 := by
  show (t ρ I).bindS _ = _
  rw [h, bindS_ok, if_pos rfl, hb]
theorem while_err {t : TF} {b : SF} {n : Nat} {ρ : En} {I I1 I2 : MH} {x : Exn} (h : t ρ I = .ok true I1) (hb : b ρ I1 = .err x I2) : whileN t b (n + 1) ρ I = .err x I2 := by
  show (t ρ I).bindS _ = _
  rw [h, bindS_ok, if_pos rfl, hb]
/-! ### the forms, opened -/
/-- a place, a length: an int that is no less than 0 (opaque to simp, so that the places stay naturals) -/
def cI (a : Nat) : Int := a
def nI (a : Nat) : D := .int (cI a)
def toB (x : D) (I : MH) : Res Bool := match x with
  | .bl b => .ok b I
  | _ => .stuck
def toI (x : D) (I : MH) : Res (Option Int) := match x with
  | .int i => .ok (some i) I
  | _ => .stuck
def rngV (x y : D) (I : MH) : Res Itr := match x, y with
  | .int i, .int j => if decide (-(2 ^ 62) ≤ i ∧ i < 2 ^ 62 ∧ -(2 ^ 62) ≤ j ∧ j < 2 ^ 62) then .ok ⟨rangeL i j, none⟩ I else .stuck
  | _, _ => .stuck
def rngW (x : D) (I : MH) : Res Itr := match x with
  | .int j => if decide (-(2 ^ 62) ≤ j ∧ j < 2 ^ 62) then .ok ⟨rangeL 0 j, none⟩ I else .stuck
  | _ => .stuck
def thenS (r : SRes) (g : SF) : SRes := match r with
  | .nx ρ I => g ρ I
  | r => r
noncomputable def endD (I : MH) (r : SRes) : Res D := match r with
  | .ret d I' => fin I d I'
  | .nx _ I' => .ok .non (trim I .non I')
  | .err x I' => .err x (trim I ((x.fld.map (·.2)).getD .non) I')
  | _ => .stuck
section
variable {ρ : En} {I I' : MH} {d x y z : D}
@[simp] theorem e_cV : cV d ρ I = .ok d I := rfl
@[simp] theorem e_get {i : Nat} (h : ρ[i]? = some (some d)) : getV i ρ I = .ok d I := by unfold getV; rw [h]
@[simp] theorem e_bin2 {g : D → D → MH → Res D} {f h : EF} : bin2 g f h ρ I = (f ρ I).bind fun x I1 => (h ρ I1).bind fun y I2 => g x y I2 := rfl
@[simp] theorem e_un1 {g : D → MH → Res D} {f : EF} : un1 g f ρ I = (f ρ I).bind fun x I1 => g x I1 := rfl
@[simp] theorem e_ifE {t : TF} {f g : EF} : ifE t f g ρ I = (t ρ I).bind fun b I1 => if b then f ρ I1 else g ρ I1 := rfl
@[simp] theorem e_seqA0 : seqA [] ρ I = .ok [] I := rfl
@[simp] theorem e_seqA {f : EF} {fs : List EF} : seqA (f :: fs) ρ I = (f ρ I).bind fun x I1 => (seqA fs ρ I1).bind fun xs I2 => .ok (x :: xs) I2 := rfl
@[simp] theorem e_tupE {fs : List EF} : tupE fs ρ I = (seqA fs ρ I).bind fun xs I1 => if small xs.length then .ok (.tup xs) I1 else .stuck := rfl
@[simp] theorem e_lstE {fs : List EF} : lstE fs ρ I = (seqA fs ρ I).bind fun xs I1 => if small xs.length then .ok (.lst xs) I1 else .stuck := rfl
@[simp] theorem e_lstM {fs : List EF} : lstM fs ρ I = (seqA fs ρ I).bind fun xs I1 => if small xs.length then .ok (.loc I1.length) (I1 ++ [.lst xs]) else .stuck := rfl
@[simp] theorem e_part0 : partE none ρ I = .ok none I := rfl
@[simp] theorem e_part {f : EF} : partE (some f) ρ I = (f ρ I).bind toI := by
  show (f ρ I).bind _ = _
  congr 1
@[simp] theorem toI_n {a : Nat} : toI (nI a) I = .ok (some (cI a)) I := rfl
@[simp] theorem toI_i {a : Int} : toI (.int a) I = .ok (some a) I := rfl
@[simp] theorem e_slice {f : EF} {lo hi : Option EF} : sliceE f lo hi ρ I = (f ρ I).bind fun x I1 => (partE lo ρ I1).bind fun l I2 => (partE hi ρ I2).bind fun h I3 => slD x l h I3 := rfl
@[simp] theorem e_call {n : Nat} {F : FF} {fs : List EF} : callE n F fs ρ I = (seqA fs ρ I).bind fun xs I1 => if xs.length = n then F xs I1 else .stuck := rfl
@[simp] theorem e_blt {g : List D → MH → Res D} {fs : List EF} : bltE g fs ρ I = (seqA fs ρ I).bind fun xs I1 => (g xs I1).calm := rfl
@[simp] theorem e_meth {p : D → MH → Bool} {g : D → List D → MH → Res D} {f : EF} {fs : List EF} : methE p g f fs ρ I = (f ρ I).bind fun x I1 => if p x I1 then (seqA fs ρ I1).bind fun xs I2 => (g x xs I2).calm else .stuck := rfl
@[simp] theorem e_tru {f : EF} : truE f ρ I = (f ρ I).bind fun x I1 => truD x I1 := rfl
@[simp] theorem toB_b {b : Bool} : toB (.bl b) I = .ok b I := rfl
@[simp] theorem e_bool {f : EF} : boolE f ρ I = (f ρ I).bind toB := by
  show (f ρ I).bind _ = _
  congr 1
@[simp] theorem e_andT {f g : TF} : andT f g ρ I = (f ρ I).bind fun b I1 => if b then g ρ I1 else .ok false I1 := rfl
@[simp] theorem e_orT {f g : TF} : orT f g ρ I = (f ρ I).bind fun b I1 => if b then .ok true I1 else g ρ I1 := rfl
@[simp] theorem e_notT {f : TF} : notT f ρ I = (f ρ I).bind fun b I1 => .ok (!b) I1 := rfl
@[simp] theorem e_nx : nxS ρ I = .nx ρ I := rfl
@[simp] theorem e_if {t : TF} {f g : SF} : ifS t f g ρ I = (t ρ I).bindS fun b I1 => if b then f ρ I1 else g ρ I1 := rfl
@[simp] theorem e_ret {f : EF} : retS f ρ I = (f ρ I).bindS fun d I1 => .ret d I1 := rfl
@[simp] theorem e_expr {f : EF} : exprS f ρ I = (f ρ I).bindS fun _ I1 => .nx ρ I1 := rfl
@[simp] theorem e_asg {f : EF} {t : D → SF} : asgS f t ρ I = (f ρ I).bindS fun d I1 => t d ρ I1 := rfl
@[simp] theorem e_name {i : Nat} : nameT i d ρ I = .nx (ρ.set i (some d)) I := rfl
@[simp] theorem e_raise {x : Str} {fld : Option Str} {f : EF} : raiseS x fld f ρ I = (f ρ I).bindS fun d I1 => .err ⟨x, fld.map fun n => (n, d)⟩ I1 := rfl
@[simp] theorem e_aug {i : Nat} {g : D → D → MH → Res D} {f : EF} (h : ρ[i]? = some (some x)) : augS i g f ρ I = (f ρ I).bindS fun y I1 => (g x y I1).calm.bindS fun z I2 => .nx (ρ.set i (some z)) I2 := by unfold augS; rw [h]
@[simp] theorem then_nx {g : SF} : thenS (.nx ρ I) g = g ρ I := rfl
@[simp] theorem then_ret {g : SF} : thenS (.ret d I) g = .ret d I := rfl
@[simp] theorem then_err {g : SF} {x : Exn} : thenS (.err x I) g = .err x I := rfl
@[simp] theorem e_seq {f g : SF} : seqS f g ρ I = thenS (f ρ I) g := by unfold seqS thenS; cases f ρ I <;> rfl
theorem run_def {n : Nat} {b : SF} {ds : List D} : runDef n b ds I = endD I (b (ds.map some ++ List.replicate (n - ds.length) none) I) := by unfold runDef endD; cases b (ds.map some ++ List.replicate (n - ds.length) none) I <;> rfl
@[simp] theorem end_ret : endD I (.ret d I') = fin I d I' := rfl
@[simp] theorem end_nx : endD I (.nx ρ I') = .ok .non (trim I .non I') := rfl
@[simp] theorem end_err {x : Exn} : endD I (.err x I') = .err x (trim I ((x.fld.map (·.2)).getD .non) I') := rfl
@[simp] theorem trim_self' : trim I d I = I := trim_self
@[simp] theorem fin_int {i : Int} : fin I (.int i) I' = .ok (.int i) (trim I (.int i) I') := rfl
@[simp] theorem fin_n {i : Nat} : fin I (nI i) I' = .ok (nI i) (trim I (nI i) I') := rfl
@[simp] theorem fin_str {s : List Nat} : fin I (.str s) I' = .ok (.str s) (trim I (.str s) I') := rfl
@[simp] theorem fin_bl {b : Bool} : fin I (.bl b) I' = .ok (.bl b) (trim I (.bl b) I') := rfl
@[simp] theorem fin_non : fin I .non I' = .ok .non (trim I .non I') := rfl
@[simp] theorem fin_si {s : List Nat} {i : Int} : fin I (.tup [.str s, .int i]) I' = .ok (.tup [.str s, .int i]) (trim I (.tup [.str s, .int i]) I') := rfl
@[simp] theorem fin_sn {s : List Nat} {i : Nat} : fin I (.tup [.str s, nI i]) I' = .ok (.tup [.str s, nI i]) (trim I (.tup [.str s, nI i]) I') := rfl
@[simp] theorem fin_ii {i : Int} : fin I (.tup [.int i, y]) I' = .ok (.tup [.int i, y]) (trim I (.tup [.int i, y]) I') := by unfold fin; cases y <;> rfl
@[simp] theorem fin_t3 : fin I (.tup [x, y, z]) I' = .ok (.tup [x, y, z]) (trim I (.tup [x, y, z]) I') := by unfold fin; cases x <;> cases y <;> rfl
@[simp] theorem e_tup {is : List Nat} {ds : List D} : tupT is (.tup ds) ρ I = namesT is ds ρ I := rfl
@[simp] theorem e_names0 : namesT [] [] ρ I = .nx ρ I := rfl
@[simp] theorem e_names {i : Nat} {is : List Nat} {ds : List D} : namesT (i :: is) (d :: ds) ρ I = namesT is ds (ρ.set i (some d)) I := rfl
/-! operators on places -/
@[simp] theorem o_add1 {a : Nat} : addD (nI a) (.int 1) I = .ok (nI (a + 1)) I := rfl
@[simp] theorem o_add3 {a : Nat} : addD (nI a) (.int 3) I = .ok (nI (a + 3)) I := rfl
@[simp] theorem o_add0 {a : Nat} : addD (nI a) (.int 0) I = .ok (nI a) I := rfl
@[simp] theorem o_add10 {a : Nat} : addD (nI a) (.int 10) I = .ok (nI (a + 10)) I := rfl
@[simp] theorem o_addn {a b : Nat} : addD (nI a) (nI b) I = .ok (nI (a + b)) I := rfl
@[simp] theorem o_augn {a : Nat} : addI (nI a) (.int 1) I = .ok (nI (a + 1)) I := rfl
@[simp] theorem o_ltn {a b : Nat} : ltS (nI a) (nI b) I = .ok (.bl (decide (a < b))) I := by
  show Res.ok (D.bl (decide ((a : Int) < (b : Int)))) I = _
  congr 2
  exact decide_eq_decide.mpr Int.ofNat_lt
@[simp] theorem o_ltz {a : Nat} : ltS (nI a) (.int 0) I = .ok (.bl false) I := by
  show Res.ok (D.bl (decide ((a : Int) < 0))) I = _
  rw [decide_eq_false (by omega)]
theorem o_gtk {a k : Nat} : cmpI (fun i j => decide (j < i)) (nI a) (.int ((k : Nat) : Int)) I = .ok (.bl (decide (k < a))) I := by
  show Res.ok (D.bl (decide ((k : Int) < (a : Int)))) I = _
  congr 2
  exact decide_eq_decide.mpr Int.ofNat_lt
@[simp] theorem o_gt30 {a : Nat} : cmpI (fun i j => decide (j < i)) (nI a) (.int 30) I = .ok (.bl (decide (30 < a))) I := o_gtk
@[simp] theorem o_gt10 {a : Nat} : cmpI (fun i j => decide (j < i)) (nI a) (.int 10) I = .ok (.bl (decide (10 < a))) I := o_gtk
@[simp] theorem o_gtn {a b : Nat} : cmpI (fun i j => decide (j < i)) (nI a) (nI b) I = .ok (.bl (decide (b < a))) I := o_gtk
@[simp] theorem o_eqn {a b : Nat} : eqD (nI a) (nI b) I = .ok (.bl (a == b)) I := by
  show Res.ok (D.bl ((a : Int) == (b : Int))) I = _
  congr 2
  by_cases h : a = b
  · subst h; simp
  · have h2 : ¬ ((a : Int) = (b : Int)) := by omega
    rw [beq_eq_false_iff_ne.mpr h, beq_eq_false_iff_ne.mpr h2]
theorem o_subn {a b : Nat} (h : b ≤ a) : subD (nI a) (nI b) I = .ok (nI (a - b)) I := by
  show Res.ok (D.int ((a : Int) - (b : Int))) I = Res.ok (D.int ((a - b : Nat) : Int)) I
  rw [Int.ofNat_sub h]
@[simp] theorem o_addii {i j : Int} : addD (.int i) (.int j) I = .ok (.int (i + j)) I := rfl
@[simp] theorem o_subii {i j : Int} : subD (.int i) (.int j) I = .ok (.int (i - j)) I := rfl
@[simp] theorem o_lt {i j : Int} : ltS (.int i) (.int j) I = .ok (.bl (decide (i < j))) I := rfl
@[simp] theorem o_le {i j : Int} : leS (.int i) (.int j) I = .ok (.bl (decide (i ≤ j))) I := rfl
@[simp] theorem o_cmp {p : Int → Int → Bool} {i j : Int} : cmpI p (.int i) (.int j) I = .ok (.bl (p i j)) I := rfl
@[simp] theorem o_eqii {i j : Int} : eqD (.int i) (.int j) I = .ok (.bl (i == j)) I := rfl
@[simp] theorem o_neii {i j : Int} : neD (.int i) (.int j) I = .ok (.bl (!(i == j))) I := rfl
@[simp] theorem o_eqss {s t : List Nat} : eqD (.str s) (.str t) I = .ok (.bl (s == t)) I := rfl
@[simp] theorem o_ness {s t : List Nat} : neD (.str s) (.str t) I = .ok (.bl (!(s == t))) I := rfl
@[simp] theorem o_nebb {s t : Bool} : neD (.bl s) (.bl t) I = .ok (.bl (!(s == t))) I := rfl
@[simp] theorem o_in1 {c : Nat} {s : List Nat} : inB false (.str [c]) (.str s) I = .ok (.bl (decide (c ∈ s))) I := rfl
@[simp] theorem o_nin1 {c : Nat} {s : List Nat} : inB true (.str [c]) (.str s) I = .ok (.bl (!decide (c ∈ s))) I := rfl
@[simp] theorem o_not {b : Bool} : notB (.bl b) I = .ok (.bl (!b)) I := rfl
@[simp] theorem o_neg {i : Int} : negD (.int i) I = .ok (.int (-i)) I := rfl
theorem small_of {n : Nat} (h : n ≤ 16777216) : small n = true := decide_eq_true (by rw [sizeLine_eq]; exact h)
@[simp] theorem e_small {n : Nat} (h : n ≤ 16777216) : small n = true := small_of h
@[simp] theorem o_len {s : List Nat} (h : s.length ≤ 16777216) : lenD [.str s] I = .ok (nI s.length) I := by
  show (if small s.length then _ else _) = _
  rw [small_of h]; rfl
theorem e_ixs {s : List Nat} {a c : Nat} (h : s.length ≤ 16777216) (hc : s[a]? = some c) : ixD (.str s) (nI a) I = .ok (.str [c]) I := by
  have e : atI s ((a : Nat) : Int) = some c := atI_nat hc
  show (if small s.length then optR I ((atI s ((a : Nat) : Int)).map fun c => D.str [c]) else Res.stuck) = _
  rw [small_of h, if_pos rfl, e]
  rfl
@[simp] theorem o_ix0 {c : Nat} {s : List Nat} (h : s.length + 1 ≤ 16777216) : ixD (.str (c :: s)) (.int 0) I = .ok (.str [c]) I := e_ixs (a := 0) h rfl
@[simp] theorem o_sl {s : List Nat} {a b : Nat} (h : s.length ≤ 16777216) (ha : a ≤ s.length) : slD (.str s) (some (cI a)) (some (cI b)) I = .ok (.str ((s.drop a).take (b - a))) I := by
  show (if small s.length then Res.ok (D.str (cutD s (some ((a : Nat) : Int)) (some ((b : Nat) : Int)))) I else .stuck) = _
  rw [small_of h, if_pos rfl]
  unfold cutD
  rw [HT.sIx_nat, HT.sIx_nat, Nat.min_eq_left ha]
  congr 2
  by_cases hb : b ≤ s.length
  · rw [Nat.min_eq_left hb]
  · rw [Nat.min_eq_right (by omega), List.take_of_length_le (by rw [List.length_drop]; omega), List.take_of_length_le (by rw [List.length_drop]; omega)]
@[simp] theorem o_ixt0 {xs : List D} : ixD (.tup (x :: xs)) (.int 0) I = .ok x I := by
  have e : atI (x :: xs) ((0 : Nat) : Int) = some x := atI_nat rfl
  show optR I (atI (x :: xs) ((0 : Nat) : Int)) = _
  rw [e]
  rfl
@[simp] theorem o_ixt1 {xs : List D} : ixD (.tup (x :: y :: xs)) (.int 1) I = .ok y I := by
  have e : atI (x :: y :: xs) ((1 : Nat) : Int) = some y := atI_nat rfl
  show optR I (atI (x :: y :: xs) ((1 : Nat) : Int)) = _
  rw [e]
  rfl
@[simp] theorem o_ixt2 {xs : List D} : ixD (.tup (x :: y :: z :: xs)) (.int 2) I = .ok z I := by
  have e : atI (x :: y :: z :: xs) ((2 : Nat) : Int) = some z := atI_nat rfl
  show optR I (atI (x :: y :: z :: xs) ((2 : Nat) : Int)) = _
  rw [e]
  rfl
theorem o_ixln {xs : List D} {k : Nat} (h : xs[k]? = some x) : ixD (.lst xs) (nI k) I = .ok x I := by
  have e : atI xs ((k : Nat) : Int) = some x := atI_nat h
  show optR I (atI xs ((k : Nat) : Int)) = _
  rw [e]
  rfl
@[simp] theorem o_ixl0 {xs : List D} : ixD (.lst (x :: xs)) (.int 0) I = .ok x I := o_ixln (k := 0) rfl
@[simp] theorem o_ixl1 {xs : List D} : ixD (.lst (x :: y :: xs)) (.int 1) I = .ok y I := o_ixln (k := 1) rfl
@[simp] theorem o_addt1 {ys : List D} (h : ys.length + 1 ≤ 16777216) : addD (.tup [x]) (.tup ys) I = .ok (.tup (x :: ys)) I := by
  show (if small ([x].length + ys.length) && !([x] : List D).isEmpty then Res.ok (D.tup ([x] ++ ys)) I else .stuck) = _
  rw [small_of (by simp; omega)]
  rfl
@[simp] theorem o_adds {s u : List Nat} (h : s.length + u.length ≤ 16777216) : addD (.str s) (.str u) I = .ok (.str (s ++ u)) I := by
  show (if small (s.length + u.length) then Res.ok (D.str (s ++ u)) I else .stuck) = _
  rw [small_of h]
  rfl
@[simp] theorem o_isLst {n : Nat} {xs : List D} {J : MH} (h : J[n]? = some (.lst xs)) : isLst (.loc n) J = true := by
  unfold isLst lstOf
  dsimp only
  rw [h]
  rfl
@[simp] theorem o_append {n : Nat} {xs : List D} {J : MH} (h : J[n]? = some (.lst xs)) (hl : xs.length < 16777216) : appendD (.loc n) [d] J = .ok .non (J.set n (.lst (xs ++ [d]))) := by
  unfold appendD
  dsimp only
  rw [h]
  dsimp only
  rw [if_pos (decide_eq_true (by rw [sizeLine_eq]; exact hl))]
theorem new_get {c : Cell} : (I ++ [c])[I.length]? = some c := by simp
theorem new_set {c c' : Cell} : (I ++ [c]).set I.length c' = I ++ [c'] := by simp
theorem trim_app {J : MH} (h : d.under I.length = true) : trim I d (I ++ J) = I := by
  unfold trim
  rw [if_pos ⟨h, fun i c hi hc => .inl (by rw [List.getElem?_append_left hi] at hc; exact hc)⟩, List.take_left]
@[simp] theorem under_n {n a : Nat} : (nI a).under n = true := by unfold nI; simp [D.under]
@[simp] theorem under_int {n : Nat} {a : Int} : (D.int a).under n = true := by simp [D.under]
@[simp] theorem under_str {n : Nat} {a : List Nat} : (D.str a).under n = true := by simp [D.under]
@[simp] theorem under_bl {n : Nat} {a : Bool} : (D.bl a).under n = true := by simp [D.under]
@[simp] theorem under_non {n : Nat} : D.non.under n = true := by simp [D.under]
@[simp] theorem under_tup {n : Nat} {xs : List D} : (D.tup xs).under n = unders n xs := by simp [D.under]
@[simp] theorem under_lst {n : Nat} {xs : List D} : (D.lst xs).under n = unders n xs := by simp [D.under]
@[simp] theorem unders0 {n : Nat} : unders n [] = true := by simp [unders]
@[simp] theorem unders1 {n : Nat} {xs : List D} : unders n (d :: xs) = (d.under n && unders n xs) := by simp [unders]
theorem unders_app {n : Nat} : ∀ {xs ys : List D}, unders n (xs ++ ys) = (unders n xs && unders n ys)
  | [], ys => by simp
  | x :: xs, ys => by rw [List.cons_append, unders1, unders1, unders_app, Bool.and_assoc]
theorem fin_new {xs : List D} (h : unders I.length xs = true) : fin I (.loc I.length) (I ++ [.lst xs]) = .ok (.lst xs) I := by
  unfold fin
  dsimp only
  rw [if_pos (Nat.le_refl _), new_get]
  dsimp only
  rw [new_set, trim_app (by rw [under_lst]; exact h)]
theorem fin_tnew {s : List Nat} {xs : List D} (h : unders I.length xs = true) : fin I (.tup [.str s, .loc I.length]) (I ++ [.lst xs]) = .ok (.tup [.str s, .lst xs]) I := by
  unfold fin
  dsimp only
  rw [if_pos (Nat.le_refl _), new_get]
  dsimp only
  rw [new_set, trim_app (by simp [h])]
@[simp] theorem fin_sl {s : List Nat} {xs : List D} : fin I (.tup [.str s, .lst xs]) I' = .ok (.tup [.str s, .lst xs]) (trim I (.tup [.str s, .lst xs]) I') := rfl
theorem try_err {c : Str} {sd : Option (Str × D) → Option D} {f : SF} {fl : Option (Str × D)} (h : f ρ I = .err ⟨c, fl⟩ I') (hs : sd fl = some d) : tryS c sd f ρ I = .ret d I' := by
  unfold tryS
  rw [h]
  dsimp only
  rw [if_pos rfl, hs]
theorem try_ret {c : Str} {sd : Option (Str × D) → Option D} {f : SF} (h : f ρ I = .ret d I') : tryS c sd f ρ I = .ret d I' := by
  unfold tryS
  rw [h]
@[simp] theorem o_subc {b n : Nat} : subD (nI (b + n)) (nI b) I = .ok (nI n) I := by
  rw [o_subn (Nat.le_add_right b n), Nat.add_sub_cancel_left]
@[simp] theorem o_intb1 : intD [.bl true] I = .ok (.int 1) I := rfl
@[simp] theorem o_intb0 : intD [.bl false] I = .ok (.int 0) I := rfl
theorem o_ints {s : List Nat} (h : s.all (fun c => decide (48 ≤ c) && decide (c ≤ 57)) = true) (hne : s ≠ []) (hl : s.length ≤ 640) : intD [.str s] I = .ok (.int ((NumText.digitsVal s : Nat) : Int)) I := by
  show (if decide (s.length ≤ 640) then optR I ((PySem.intText? (toS s)).map D.int) else .stuck) = _
  rw [if_pos (decide_eq_true hl), show PySem.intText? (toS s) = some ((NumText.digitsVal s : Nat) : Int) from SX.int_S h hne (by omega)]
  rfl
@[simp] theorem o_mul0 {i j : Int} (h : decide (-(2 ^ 64) < j ∧ j < 2 ^ 64) = true) : mulSD (.int i) (.int j) I = .ok (.int (i * j)) I := by
  show (if decide (-(2 ^ 64) < i ∧ i < 2 ^ 64) || decide (-(2 ^ 64) < j ∧ j < 2 ^ 64) then Res.ok (D.int (i * j)) I else .stuck) = _
  rw [h, Bool.or_true, if_pos rfl]
theorem o_mul2 {i j : Int} (h : decide (-(2 ^ 64) < i ∧ i < 2 ^ 64) = true) : mulSD (.int i) (.int j) I = .ok (.int (i * j)) I := by
  show (if decide (-(2 ^ 64) < i ∧ i < 2 ^ 64) || decide (-(2 ^ 64) < j ∧ j < 2 ^ 64) then Res.ok (D.int (i * j)) I else .stuck) = _
  rw [h, Bool.true_or, if_pos rfl]
@[simp] theorem o_isStr {s : List Nat} : isStr (.str s) I = true := rfl
theorem o_find {s u : List Nat} {i : Nat} : findD (.str s) [.str u, nI i] I = .ok (.int (Txt.find3 (toS s) (toS u) (i : Int))) I := rfl
theorem find_spec (t : List Nat) (c i : Nat) : (Txt.find3 (toS t) (toS [c]) (i : Int) = -1 ∧ ∀ v, i ≤ v → v < t.length → t[v]? ≠ some c) ∨
    ∃ k : Nat, Txt.find3 (toS t) (toS [c]) (i : Int) = (k : Int) ∧ i ≤ k ∧ t[k]? = some c ∧ ∀ v, i ≤ v → v < k → t[v]? ≠ some c := by
  have hl : (toS t).length = t.length := toS_length t
  have hf : fromIndex (toS t).length (i : Int) = i := by
    unfold fromIndex
    rw [if_neg (by omega)]
    omega
  have hg : ∀ v, v < t.length → (toS t).cps.getD v 0 = c → t[v]? = some c := fun v hv h => StrLaws.getElem?_of_getD (x := toS t) (by rw [hl]; exact hv) h
  have hg' : ∀ v, v < t.length → t[v]? = some c → (toS t).cps.getD v 0 = c := fun v hv h => StrLaws.getD_of_getElem? (x := toS t) h
  rcases StrLaws.find3_spec (toS t) c (i : Int) with ⟨h1, h2⟩ | ⟨k, h1, h2, h3, h4, h5⟩
  · rw [hf, hl] at h2
    exact .inl ⟨h1, fun v a b e => h2 v a b (hg' v b e)⟩
  · rw [hf] at h2 h5
    rw [hl] at h3
    exact .inr ⟨k, h1, h2, hg k h3 h4, fun v a b e => h5 v a b (hg' v (by omega) e)⟩
/-! loops over a range -/
@[simp] theorem e_rng2 {f g : EF} : rng2I f g ρ I = (f ρ I).bind fun x I1 => (g ρ I1).bind fun y I2 => rngV x y I2 := by
  show (f ρ I).bind _ = _
  congr 1
@[simp] theorem e_rng1 {f : EF} : rng1I f ρ I = (f ρ I).bind fun x I1 => rngW x I1 := by
  show (f ρ I).bind _ = _
  congr 1
def upTo (a b : Nat) : List D := (List.range (b - a)).map fun i => nI (a + i)
theorem upTo_nil {a b : Nat} (h : b ≤ a) : upTo a b = [] := by unfold upTo; rw [show b - a = 0 by omega]; rfl
theorem upTo_cons {a b : Nat} (h : a < b) : upTo a b = nI a :: upTo (a + 1) b := by
  unfold upTo
  rw [show b - a = (b - (a + 1)) + 1 by omega, List.range_succ_eq_map, List.map_cons, List.map_map]
  congr 1
  refine List.map_congr_left fun i _ => ?_
  show nI (a + (i + 1)) = nI (a + 1 + i)
  rw [show a + (i + 1) = a + 1 + i by omega]
theorem rangeL_n (a b : Nat) : rangeL (a : Int) (b : Int) = upTo a b := by
  unfold rangeL upTo
  rw [show ((b : Int) - (a : Int)).toNat = b - a by omega]
  rfl
@[simp] theorem rngV_n {a b : Nat} (ha : a ≤ 16777216) (hb : b ≤ 16777216) : rngV (nI a) (nI b) I = .ok ⟨upTo a b, none⟩ I := by
  unfold rngV nI
  dsimp only
  have e : decide (-(2 ^ 62) ≤ cI a ∧ cI a < 2 ^ 62 ∧ -(2 ^ 62) ≤ cI b ∧ cI b < 2 ^ 62) = true := decide_eq_true (by unfold cI; omega)
  rw [if_pos e]
  exact congrArg (fun l => Res.ok (⟨l, none⟩ : Itr) I) (rangeL_n a b)
@[simp] theorem rngW_n {b : Nat} (hb : b ≤ 16777216) : rngW (nI b) I = .ok ⟨upTo 0 b, none⟩ I := by
  unfold rngW nI
  dsimp only
  have e : decide (-(2 ^ 62) ≤ cI b ∧ cI b < 2 ^ 62) = true := decide_eq_true (by unfold cI; omega)
  rw [if_pos e]
  exact congrArg (fun l => Res.ok (⟨l, none⟩ : Itr) I) (rangeL_n 0 b)
@[simp] theorem e_for {it : IF} {t : D → SF} {b : SF} : forS it t b ρ I = (it ρ I).bindS fun ip I1 => forL ip t b ip.items ρ I1 := rfl
theorem for_nil {L : List D} {t : D → SF} {b : SF} : forL ⟨L, none⟩ t b [] ρ I = .nx ρ I := rfl
theorem for_nx {L xs : List D} {t : D → SF} {b : SF} {ρ1 ρ2 : En} {I1 I2 : MH} (h1 : t x ρ I = .nx ρ1 I1) (h2 : b ρ1 I1 = .nx ρ2 I2) : forL ⟨L, none⟩ t b (x :: xs) ρ I = forL ⟨L, none⟩ t b xs ρ2 I2 := by
  rw [forL]
  dsimp only
  rw [if_pos (show watchOk ⟨L, none⟩ I = true from rfl), h1]
  dsimp only
  rw [h2]
theorem for_ret {L xs : List D} {t : D → SF} {b : SF} {ρ1 : En} {I1 I2 : MH} (h1 : t x ρ I = .nx ρ1 I1) (h2 : b ρ1 I1 = .ret d I2) : forL ⟨L, none⟩ t b (x :: xs) ρ I = .ret d I2 := by
  rw [forL]
  dsimp only
  rw [if_pos (show watchOk ⟨L, none⟩ I = true from rfl), h1]
  dsimp only
  rw [h2]
end
end MP
/-! MXQ: more plain words: ints, cells -/
namespace MP
open PySem PySem.Spec L2
section
variable {ρ : En} {I J : MH} {d x y z : D}
theorem o_modi {i j : Int} (h : 0 < j) : modD (.int i) (.int j) I = .ok (.int (i % j)) I := by
  show (if decide (0 < j) then Res.ok (D.int (i % j)) I else .stuck) = _
  rw [if_pos (decide_eq_true h)]
theorem o_divi {i j : Int} (h : 0 < j ∧ j < 2 ^ 64) : fdivD (.int i) (.int j) I = .ok (.int (i / j)) I := by
  show (if decide (0 < j ∧ j < 2 ^ 64) then Res.ok (D.int (i / j)) I else .stuck) = _
  rw [if_pos (decide_eq_true h)]
theorem o_scrlen {ns : List Int} : lenD [.scr ns] I = .ok (nI ns.length) I := by
  show Res.ok (D.int ((ns.map D.int).length : Int)) I = _
  rw [List.length_map]
  rfl
theorem o_modn {i j : Nat} (h : 0 < j) : modD (nI i) (nI j) I = .ok (nI (i % j)) I := o_modi (i := i) (j := j) (by omega)
theorem o_muln {k : Nat} {j : Int} (h : decide (-(2 ^ 64) < j ∧ j < 2 ^ 64) = true) : mulSD (nI k) (.int j) I = .ok (.int (k * j)) I := o_mul0 h
theorem o_addni {i : Int} {k : Nat} : addD (.int i) (nI k) I = .ok (.int (i + k)) I := rfl
theorem o_scrtru {ns : List Int} : truD (.scr ns) I = .ok (!ns.isEmpty) I := by
  show Res.ok (!(ns.map D.int).isEmpty) I = _
  cases ns <;> rfl
theorem o_scrix {ns : List Int} {k : Nat} {i : Int} (h : ns[k]? = some i) : ixD (.scr ns) (nI k) I = .ok (.int i) I := by
  have e : atI (ns.map D.int) ((k : Nat) : Int) = some (.int i) := atI_nat (by rw [List.getElem?_map, h]; rfl)
  show optR I (atI (ns.map D.int) ((k : Nat) : Int)) = _
  rw [e]
  rfl
theorem o_pow18 : powD (.int 10) (.int 18) I = .ok (.int 1000000000000000000) I := by
  show (if decide ((0 : Int) ≤ 18 ∧ (18 : Int) ≤ 1000000 ∧ (10 : Int).natAbs < 2 ^ 64) then Res.ok (D.int (10 ^ (18 : Int).toNat)) I else .stuck) = _
  rw [if_pos (by decide)]
  rfl
theorem o_intI {i : Int} : intD [.int i] I = .ok (.int i) I := rfl
/-- a cell of two -/
theorem o_cell0 {n : Nat} {a b : D} (h : J[n]? = some (.lst [a, b])) : ixD (.loc n) (.int 0) J = .ok a J := by
  have e : atI [a, b] ((0 : Nat) : Int) = some a := atI_nat rfl
  unfold ixD seqOf
  dsimp only
  rw [h]
  dsimp only
  rw [show (0 : Int) = ((0 : Nat) : Int) from rfl, e]
  rfl
theorem o_cell1 {n : Nat} {a b : D} (h : J[n]? = some (.lst [a, b])) : ixD (.loc n) (.int 1) J = .ok b J := by
  have e : atI [a, b] ((1 : Nat) : Int) = some b := atI_nat rfl
  unfold ixD seqOf
  dsimp only
  rw [h]
  dsimp only
  rw [show (1 : Int) = ((1 : Nat) : Int) from rfl, e]
  rfl
theorem o_set0 {n : Nat} {a b v : D} (h : J[n]? = some (.lst [a, b])) : setIx (.loc n) (.int 0) v J = .ok () (J.set n (.lst [v, b])) := by
  unfold setIx
  dsimp only
  rw [h]
  dsimp only
  rw [show ixN [a, b].length 0 = some 0 from rfl]
  rfl
theorem o_set1 {n : Nat} {a b v : D} (h : J[n]? = some (.lst [a, b])) : setIx (.loc n) (.int 1) v J = .ok () (J.set n (.lst [a, v])) := by
  unfold setIx
  dsimp only
  rw [h]
  dsimp only
  rw [show ixN [a, b].length 1 = some 1 from rfl]
  rfl
theorem e_sub {fo fi : EF} : subT fo fi d ρ I = (fo ρ I).bindS fun o I1 => (fi ρ I1).bindS fun i I2 => (setIx o i d I2).bindS fun _ I3 => .nx ρ I3 := rfl
theorem set_get {n : Nat} {c c' : Cell} (h : J[n]? = some c) : (J.set n c')[n]? = some c' := by
  have := (List.getElem?_eq_some_iff.mp h).1
  simp [this]
end
end MP
/-! MXR: the places that may be dicts, at other values -/
namespace MP
open PySem PySem.Spec L2
section
variable {I : MH} {y : D}
@[simp] theorem o_ixDstr {s : List Nat} : ixDD (.str s) y I = ixD (.str s) y I := rfl
@[simp] theorem o_ixDtup {xs : List D} : ixDD (.tup xs) y I = ixD (.tup xs) y I := rfl
@[simp] theorem o_ixDlst {xs : List D} : ixDD (.lst xs) y I = ixD (.lst xs) y I := rfl
@[simp] theorem o_ixDscr {xs : List Int} : ixDD (.scr xs) y I = ixD (.scr xs) y I := rfl
theorem o_ixDloc {n : Nat} {xs : List D} (h : I[n]? = some (.lst xs)) : ixDD (.loc n) y I = ixD (.loc n) y I := by
  have e : dctOf I (.loc n) = none := by unfold dctOf; dsimp only; rw [h]
  unfold ixDD
  rw [e]
@[simp] theorem o_inDstr {b : Bool} {s : List Nat} : inDD b y (.str s) I = inB b y (.str s) I := rfl
@[simp] theorem o_inDtup {b : Bool} {xs : List D} : inDD b y (.tup xs) I = inB b y (.tup xs) I := rfl
@[simp] theorem o_inDlst {b : Bool} {xs : List D} : inDD b y (.lst xs) I = inB b y (.lst xs) I := rfl
end
end MP
/-! MXS: cells of lists, calls of methods, values without cells -/
namespace MP
open PySem PySem.Spec L2
section
variable {ρ : En} {I J : MH} {d x y z : D}
theorem o_trucell {n : Nat} {xs : List D} (h : J[n]? = some (.lst xs)) : truD (.loc n) J = .ok (!xs.isEmpty) J := by
  unfold truD seqOf; dsimp only; rw [h]
theorem o_tuplecell {n : Nat} {xs : List D} (h : J[n]? = some (.lst xs)) : tupleD [.loc n] J = .ok (.tup xs) J := by
  unfold tupleD lstOf; dsimp only; rw [h]
theorem o_lencell {n : Nat} {xs : List D} (h : J[n]? = some (.lst xs)) : lenD [.loc n] J = .ok (nI xs.length) J := by
  unfold lenD seqOf; dsimp only; rw [h]; rfl
@[simp] theorem o_lenlst {xs : List D} : lenD [.lst xs] J = .ok (nI xs.length) J := rfl
@[simp] theorem tru_bl {b : Bool} : truD (.bl b) I = .ok b I := rfl
@[simp] theorem o_add2 {a : Nat} : addD (nI a) (.int 2) I = .ok (nI (a + 2)) I := rfl
@[simp] theorem o_add4 {a : Nat} : addD (nI a) (.int 4) I = .ok (nI (a + 4)) I := rfl
theorem o_eqk {a k : Nat} : eqD (nI a) (.int ((k : Nat) : Int)) I = .ok (.bl (a == k)) I := o_eqn (b := k)
@[simp] theorem o_eqk0 {a : Nat} : eqD (nI a) (.int 0) I = .ok (.bl (a == 0)) I := o_eqk (k := 0)
@[simp] theorem o_eqk1 {a : Nat} : eqD (nI a) (.int 1) I = .ok (.bl (a == 1)) I := o_eqk (k := 1)
@[simp] theorem o_eqk2 {a : Nat} : eqD (nI a) (.int 2) I = .ok (.bl (a == 2)) I := o_eqk (k := 2)
@[simp] theorem o_eqk3 {a : Nat} : eqD (nI a) (.int 3) I = .ok (.bl (a == 3)) I := o_eqk (k := 3)
@[simp] theorem o_eqk5 {a : Nat} : eqD (nI a) (.int 5) I = .ok (.bl (a == 5)) I := o_eqk (k := 5)
@[simp] theorem o_eqk10 {a : Nat} : eqD (nI a) (.int 10) I = .ok (.bl (a == 10)) I := o_eqk (k := 10)
@[simp] theorem o_gt1 {a : Nat} : cmpI (fun i j => decide (j < i)) (nI a) (.int 1) I = .ok (.bl (decide (1 < a))) I := o_gtk (k := 1)
@[simp] theorem o_sub1 {a : Nat} : subD (nI (a + 1)) (.int 1) I = .ok (nI a) I := by
  show Res.ok (D.int (((a + 1 : Nat) : Int) - 1)) I = Res.ok (D.int (a : Int)) I
  rw [show (((a + 1 : Nat) : Int) - 1) = (a : Int) by omega]
theorem o_inDct {n : Nat} {kvs : List (KD × D)} {s : List Nat} (h : J[n]? = some (.dct kvs)) : inDD false (.str s) (.loc n) J = .ok (.bl (valD kvs (.inr s)).isSome) J := by
  unfold inDD dctOf; dsimp only; rw [h]; rfl
theorem o_ixDct {n : Nat} {kvs : List (KD × D)} {s : List Nat} (h : J[n]? = some (.dct kvs)) : ixDD (.loc n) (.str s) J = optR J (valD kvs (.inr s)) := by
  unfold ixDD dctOf; dsimp only; rw [h]; rfl
/-- a method's call, the object known -/
def callV (mt : Mtt) (m : Str) (fs : List EF) (x : D) : EF := fun ρ I1 => match insOf I1 x with
  | some (_, c, gs) => (match mt.lookup (c, m) with
    | some (n, F) => if (gs.lookup m).isNone then (seqA fs ρ I1).bind fun xs I2 => if xs.length + 1 = n then F (x :: xs) I2 else .stuck else .stuck
    | none => .stuck)
  | none => .stuck
theorem e_callM {mt : Mtt} {m : Str} {f : EF} {fs : List EF} : callM mt m f fs ρ I = (f ρ I).bind fun x I1 => callV mt m fs x ρ I1 := rfl
mutual
theorem cl_under {m : Nat} : ∀ {d : D}, d.under 0 = true → d.under m = true
  | .non, _ => by simp [D.under]
  | .bl _, _ => by simp [D.under]
  | .int _, _ => by simp [D.under]
  | .str _, _ => by simp [D.under]
  | .scr _, _ => by simp [D.under]
  | .loc n, h => by simp [D.under] at h
  | .tup xs, h => by rw [under_tup] at h ⊢; exact cls_under h
  | .lst xs, h => by rw [under_lst] at h ⊢; exact cls_under h
theorem cls_under {m : Nat} : ∀ {ds : List D}, unders 0 ds = true → unders m ds = true
  | [], _ => unders0
  | d :: ds, h => by
    rw [unders1] at h ⊢
    have h' := Bool.and_eq_true_iff.mp h
    rw [cl_under h'.1, cls_under h'.2]; rfl
end
theorem fin_cl (h : d.under 0 = true) {I' : MH} : fin I d I' = .ok d (trim I d I') := by
  unfold fin
  split
  · simp [D.under] at h
  · simp [D.under, unders] at h
  · rfl
end
end MP
/-! K07: the text of the law, read (printed by gen2.py) -/
namespace K07
open PySem PySem.Spec L2 MP
def top (i : Nat) : Stmt := PySem.Challenge.pw_seamgraph_k07_faults_of_documents.main.body.getD i (.Pass ⟨0, 0, 0, 0⟩)
def t_meta : List Nat := [95, 116, 121, 112, 101]
def t_LET : List Nat := [97, 98, 99, 100, 101, 102, 103, 104, 105, 106, 107, 108, 109, 110, 111, 112, 113, 114, 115, 116, 117, 118, 119, 120, 121, 122, 65, 66, 67, 68, 69, 70, 71, 72, 73, 74, 75, 76, 77, 78, 79, 80, 81, 82, 83, 84, 85, 86, 87, 88, 89, 90]
def t_NAM : List Nat := [97, 98, 99, 100, 101, 102, 103, 104, 105, 106, 107, 108, 109, 110, 111, 112, 113, 114, 115, 116, 117, 118, 119, 120, 121, 122, 65, 66, 67, 68, 69, 70, 71, 72, 73, 74, 75, 76, 77, 78, 79, 80, 81, 82, 83, 84, 85, 86, 87, 88, 89, 90, 48, 49, 50, 51, 52, 53, 54, 55, 56, 57, 95]
def t_dig : List Nat := [48, 49, 50, 51, 52, 53, 54, 55, 56, 57]
def t_name : List Nat := [110, 97, 109, 101]
def t_number : List Nat := [110, 117, 109, 98, 101, 114]
def t_text : List Nat := [116, 101, 120, 116]
def t_variable : List Nat := [118, 97, 114, 105, 97, 98, 108, 101]
def t_dots : List Nat := [46, 46, 46]
def t_sign : List Nat := [115, 105, 103, 110]
def t_SIG : List Nat := [123, 125, 40, 41, 58, 61, 33, 91, 93, 64]
def t_BLA : List Nat := [32, 10, 44]
def t_word : List Nat := [119, 111, 114, 100]
def t_fault : List Nat := [102, 97, 117, 108, 116]
def t_digu : List Nat := [48, 49, 50, 51, 52, 53, 54, 55, 56, 57, 95]
def t_mdig : List Nat := [45, 48, 49, 50, 51, 52, 53, 54, 55, 56, 57]
def t_words : List Nat := [119, 111, 114, 100, 115]
def t_bad : List Nat := [98, 97, 100]
def t_ok : List Nat := [111, 107]
def t_true : List Nat := [116, 114, 117, 101]
def t_truth : List Nat := [116, 114, 117, 116, 104]
def t_false : List Nat := [102, 97, 108, 115, 101]
def t_null : List Nat := [110, 117, 108, 108]
def t_must : List Nat := [109, 117, 115, 116]
def t_list : List Nat := [108, 105, 115, 116]
def t_if : List Nat := [105, 102]
def t_unless : List Nat := [117, 110, 108, 101, 115, 115]
def t_field : List Nat := [102, 105, 101, 108, 100]
def t_on : List Nat := [111, 110]
def t_spread : List Nat := [115, 112, 114, 101, 97, 100]
def t_fragment : List Nat := [102, 114, 97, 103, 109, 101, 110, 116]
def t_query : List Nat := [113, 117, 101, 114, 121]
def t_document : List Nat := [100, 111, 99, 117, 109, 101, 110, 116]
def tq_33 : List Nat := [36, 118]
def t_Int : List Nat := [73, 110, 116]
def tq_35 : List Nat := [36, 119]
def tq_36 : List Nat := [34, 120, 34]
def tq_37 : List Nat := [91, 91, 91, 91, 91, 91]
def T_cls : Clt := [("Document", ["fragments", "selection", "variables"]), ("Parser", ["at", "end", "words"])]
def tb_WORD_CONSTANTS : List (List Nat × D) := [(t_true, (.tup [(.str t_truth), (.bl true)])), (t_false, (.tup [(.str t_truth), (.bl false)])), (t_null, (.tup [(.str t_null)]))]
abbrev s_run_end : Stmt := top 13
abbrev N_run_end : List Str := ["text", "at", "signs"]
abbrev P_run_end : List Str := ["text", "at", "signs"]
theorem o_run_end : defOk N_run_end P_run_end (defScope s_run_end) = true := by decide +kernel
noncomputable def M_run_end : Mtt := []
noncomputable def b_run_end : SF := (seqS (whileS (andT (boolE (bin2 ltS (getV 1) (bltE lenD [(getV 0)]))) (boolE (bin2 (inDD false) (bin2 ixDD (getV 0) (getV 1)) (getV 2)))) (seqS (augS 1 addI (cV (.int 1))) nxS)) (seqS (retS (getV 1)) nxS))
noncomputable def C_run_end : CC := { sc := defScope s_run_end, N := N_run_end, isDef := true, fns := [], cst := [], blt := ["len"], mts := [], exs := [], cls := [], mth := M_run_end, mks := [], kds := [] }
theorem e_run_end : cSs 60 (C_run_end) (defBody s_run_end) = some (b_run_end) := by kernel_rfl
noncomputable def F_run_end : FF := runDef 3 b_run_end
abbrev s_read_name : Stmt := top 14
abbrev N_read_name : List Str := ["text", "at", "place", "end", "name"]
abbrev P_read_name : List Str := ["text", "at", "place"]
theorem o_read_name : defOk N_read_name P_read_name (defScope s_read_name) = true := by decide +kernel
noncomputable def M_read_name : Mtt := []
noncomputable def b_read_name : SF := (seqS (asgS (callE 3 F_run_end [(getV 0), (getV 1), (cV (.str t_NAM))]) (nameT 3)) (seqS (asgS (sliceE (getV 0) (some (getV 1)) (some (getV 3))) (nameT 4)) (seqS (ifS (andT (boolE (bin2 neD (getV 4) (cV (.str t_meta)))) (orT (boolE (bin2 eqD (getV 4) (cV (.str [])))) (orT (boolE (bin2 (inDD true) (bin2 ixDD (getV 4) (cV (.int 0))) (cV (.str t_LET)))) (boolE (bin2 (cmpI fun i j => decide (j < i)) (bltE lenD [(getV 4)]) (cV (.int 30))))))) (seqS (raiseS "InvalidDocument" (some "place") (getV 2)) nxS) nxS) (seqS (retS (tupE [(getV 4), (getV 3)])) nxS))))
noncomputable def C_read_name : CC := { sc := defScope s_read_name, N := N_read_name, isDef := true, fns := [("run_end", 3, F_run_end)], cst := [("LETTERS", (.str t_LET)), ("META", (.str t_meta)), ("MOST_NAME", (.int 30)), ("NAME_SIGNS", (.str t_NAM))], blt := ["len"], mts := [], exs := [("InvalidDocument", some "place")], cls := [], mth := M_read_name, mks := [], kds := [] }
theorem e_read_name : cSs 60 (C_read_name) (defBody s_read_name) = some (b_read_name) := by kernel_rfl
noncomputable def F_read_name : FF := runDef 5 b_read_name
abbrev s_read_number : Stmt := top 15
abbrev N_read_number : List Str := ["text", "at", "begin", "end", "number"]
abbrev P_read_number : List Str := ["text", "at"]
theorem o_read_number : defOk N_read_number P_read_number (defScope s_read_number) = true := by decide +kernel
noncomputable def M_read_number : Mtt := []
noncomputable def b_read_number : SF := (seqS (asgS (ifE (boolE (bin2 eqD (bin2 ixDD (getV 0) (getV 1)) (cV (.str [45])))) (bin2 addD (getV 1) (cV (.int 1))) (getV 1)) (nameT 2)) (seqS (asgS (callE 3 F_run_end [(getV 0), (getV 2), (cV (.str t_dig))]) (nameT 3)) (seqS (ifS (orT (boolE (bin2 eqD (getV 3) (getV 2))) (boolE (bin2 (cmpI fun i j => decide (j < i)) (bin2 subD (getV 3) (getV 2)) (cV (.int 10))))) (seqS (raiseS "InvalidDocument" (some "place") (getV 1)) nxS) nxS) (seqS (asgS (bltE intD [(sliceE (getV 0) (some (getV 2)) (some (getV 3)))]) (nameT 4)) (seqS (retS (tupE [(ifE (boolE (bin2 eqD (bin2 ixDD (getV 0) (getV 1)) (cV (.str [45])))) (un1 negD (getV 4)) (getV 4)), (getV 3)])) nxS)))))
noncomputable def C_read_number : CC := { sc := defScope s_read_number, N := N_read_number, isDef := true, fns := [("run_end", 3, F_run_end)], cst := [("DIGITS", (.str t_dig)), ("MOST_DIGITS", (.int 10))], blt := ["int"], mts := [], exs := [("InvalidDocument", some "place")], cls := [], mth := M_read_number, mks := [], kds := [] }
theorem e_read_number : cSs 60 (C_read_number) (defBody s_read_number) = some (b_read_number) := by kernel_rfl
noncomputable def F_read_number : FF := runDef 5 b_read_number
abbrev s_read_string : Stmt := top 16
abbrev N_read_string : List Str := ["text", "at", "end"]
abbrev P_read_string : List Str := ["text", "at"]
theorem o_read_string : defOk N_read_string P_read_string (defScope s_read_string) = true := by decide +kernel
noncomputable def M_read_string : Mtt := []
noncomputable def b_read_string : SF := (seqS (asgS (bin2 addD (getV 1) (cV (.int 1))) (nameT 2)) (seqS (whileS (andT (boolE (bin2 ltS (getV 2) (bltE lenD [(getV 0)]))) (andT (boolE (bin2 neD (bin2 ixDD (getV 0) (getV 2)) (cV (.str [34])))) (boolE (bin2 neD (bin2 ixDD (getV 0) (getV 2)) (cV (.str [10])))))) (seqS (augS 2 addI (cV (.int 1))) nxS)) (seqS (ifS (orT (boolE (bin2 eqD (getV 2) (bltE lenD [(getV 0)]))) (boolE (bin2 eqD (bin2 ixDD (getV 0) (getV 2)) (cV (.str [10]))))) (seqS (raiseS "InvalidDocument" (some "place") (getV 1)) nxS) nxS) (seqS (retS (tupE [(sliceE (getV 0) (some (bin2 addD (getV 1) (cV (.int 1)))) (some (getV 2))), (bin2 addD (getV 2) (cV (.int 1)))])) nxS))))
noncomputable def C_read_string : CC := { sc := defScope s_read_string, N := N_read_string, isDef := true, fns := [], cst := [], blt := ["len"], mts := [], exs := [("InvalidDocument", some "place")], cls := [], mth := M_read_string, mks := [], kds := [] }
theorem e_read_string : cSs 60 (C_read_string) (defBody s_read_string) = some (b_read_string) := by kernel_rfl
noncomputable def F_read_string : FF := runDef 3 b_read_string
abbrev s_read_word : Stmt := top 17
abbrev N_read_word : List Str := ["text", "at", "sign", "name", "end", "string", "number"]
abbrev P_read_word : List Str := ["text", "at"]
theorem o_read_word : defOk N_read_word P_read_word (defScope s_read_word) = true := by decide +kernel
noncomputable def M_read_word : Mtt := []
noncomputable def b_read_word : SF := (seqS (asgS (bin2 ixDD (getV 0) (getV 1)) (nameT 2)) (seqS (ifS (boolE (bin2 (inDD false) (getV 2) (cV (.str t_SIG)))) (seqS (retS (tupE [(cV (.str t_sign)), (getV 2), (bin2 addD (getV 1) (cV (.int 1)))])) nxS) nxS) (seqS (ifS (boolE (bin2 eqD (sliceE (getV 0) (some (getV 1)) (some (bin2 addD (getV 1) (cV (.int 3))))) (cV (.str t_dots)))) (seqS (retS (tupE [(cV (.str t_sign)), (cV (.str t_dots)), (bin2 addD (getV 1) (cV (.int 3)))])) nxS) nxS) (seqS (ifS (boolE (bin2 eqD (getV 2) (cV (.str [36])))) (seqS (asgS (callE 3 F_read_name [(getV 0), (bin2 addD (getV 1) (cV (.int 1))), (getV 1)]) (tupT [3, 4])) (seqS (ifS (boolE (bin2 eqD (getV 3) (cV (.str t_meta)))) (seqS (raiseS "InvalidDocument" (some "place") (getV 1)) nxS) nxS) (seqS (retS (tupE [(cV (.str t_variable)), (getV 3), (getV 4)])) nxS))) nxS) (seqS (ifS (boolE (bin2 eqD (getV 2) (cV (.str [34])))) (seqS (asgS (callE 2 F_read_string [(getV 0), (getV 1)]) (tupT [5, 4])) (seqS (retS (tupE [(cV (.str t_text)), (getV 5), (getV 4)])) nxS)) nxS) (seqS (ifS (orT (boolE (bin2 eqD (getV 2) (cV (.str [45])))) (boolE (bin2 (inDD false) (getV 2) (cV (.str t_dig))))) (seqS (asgS (callE 2 F_read_number [(getV 0), (getV 1)]) (tupT [6, 4])) (seqS (retS (tupE [(cV (.str t_number)), (getV 6), (getV 4)])) nxS)) nxS) (seqS (asgS (callE 3 F_read_name [(getV 0), (getV 1), (getV 1)]) (tupT [3, 4])) (seqS (retS (tupE [(cV (.str t_name)), (getV 3), (getV 4)])) nxS))))))))
noncomputable def C_read_word : CC := { sc := defScope s_read_word, N := N_read_word, isDef := true, fns := [("read_name", 3, F_read_name), ("read_number", 2, F_read_number), ("read_string", 2, F_read_string)], cst := [("DIGITS", (.str t_dig)), ("META", (.str t_meta)), ("SIGNS", (.str t_SIG))], blt := [], mts := [], exs := [("InvalidDocument", some "place")], cls := [], mth := M_read_word, mks := [], kds := [] }
theorem e_read_word : cSs 60 (C_read_word) (defBody s_read_word) = some (b_read_word) := by kernel_rfl
noncomputable def F_read_word : FF := runDef 7 b_read_word
abbrev s_split_words : Stmt := top 18
abbrev N_split_words : List Str := ["text", "words", "at", "kind", "word", "end"]
abbrev P_split_words : List Str := ["text"]
theorem o_split_words : defOk N_split_words P_split_words (defScope s_split_words) = true := by decide +kernel
noncomputable def M_split_words : Mtt := []
noncomputable def b_split_words : SF := (seqS (asgS (lstM []) (nameT 1)) (seqS (asgS (callE 3 F_run_end [(getV 0), (cV (.int 0)), (cV (.str t_BLA))]) (nameT 2)) (seqS (whileS (boolE (bin2 ltS (getV 2) (bltE lenD [(getV 0)]))) (seqS (asgS (callE 2 F_read_word [(getV 0), (getV 2)]) (tupT [3, 4, 5])) (seqS (exprS (methE isLst appendD (getV 1) [(tupE [(getV 2), (getV 3), (getV 4)])])) (seqS (asgS (callE 3 F_run_end [(getV 0), (getV 5), (cV (.str t_BLA))]) (nameT 2)) nxS)))) (seqS (retS (getV 1)) nxS))))
noncomputable def C_split_words : CC := { sc := defScope s_split_words, N := N_split_words, isDef := true, fns := [("read_word", 2, F_read_word), ("run_end", 3, F_run_end)], cst := [("BLANKS", (.str t_BLA))], blt := ["len"], mts := ["words"], exs := [], cls := [], mth := M_split_words, mks := [], kds := [] }
theorem e_split_words : cSs 60 (C_split_words) (defBody s_split_words) = some (b_split_words) := by kernel_rfl
noncomputable def F_split_words : FF := runDef 6 b_split_words
abbrev s_Parser_init : Stmt := mbr (top 24) 0
abbrev N_Parser_init : List Str := ["self", "text"]
abbrev P_Parser_init : List Str := ["self", "text"]
theorem o_Parser_init : defOk N_Parser_init P_Parser_init (defScope s_Parser_init) = true := by decide +kernel
noncomputable def M_Parser_init : Mtt := []
noncomputable def b_Parser_init : SF := (seqS (asgS (callE 1 F_split_words [(getV 1)]) (fldT T_cls "words" (getV 0))) (seqS (asgS (bltE lenD [(getV 1)]) (fldT T_cls "end" (getV 0))) (seqS (asgS (cV (.int 0)) (fldT T_cls "at" (getV 0))) nxS)))
noncomputable def C_Parser_init : CC := { sc := defScope s_Parser_init, N := N_Parser_init, isDef := true, fns := [("split_words", 1, F_split_words)], cst := [], blt := ["len"], mts := [], exs := [], cls := T_cls, mth := M_Parser_init, mks := [], kds := [] }
theorem e_Parser_init : cSs 60 (C_Parser_init) (defBody s_Parser_init) = some (b_Parser_init) := by kernel_rfl
noncomputable def F_Parser_init : FF := runDef 2 b_Parser_init
abbrev s_Document_init : Stmt := mbr (top 23) 0
abbrev N_Document_init : List Str := ["self", "variables", "selection", "fragments"]
abbrev P_Document_init : List Str := ["self", "variables", "selection", "fragments"]
theorem o_Document_init : defOk N_Document_init P_Document_init (defScope s_Document_init) = true := by decide +kernel
noncomputable def M_Document_init : Mtt := []
noncomputable def b_Document_init : SF := (seqS (asgS (getV 1) (fldT T_cls "variables" (getV 0))) (seqS (asgS (getV 2) (fldT T_cls "selection" (getV 0))) (seqS (asgS (getV 3) (fldT T_cls "fragments" (getV 0))) nxS)))
noncomputable def C_Document_init : CC := { sc := defScope s_Document_init, N := N_Document_init, isDef := true, fns := [], cst := [], blt := [], mts := [], exs := [], cls := T_cls, mth := M_Document_init, mks := [], kds := [] }
theorem e_Document_init : cSs 60 (C_Document_init) (defBody s_Document_init) = some (b_Document_init) := by kernel_rfl
noncomputable def F_Document_init : FF := runDef 4 b_Document_init
abbrev s_Parser_fail : Stmt := mbr (top 24) 1
abbrev N_Parser_fail : List Str := ["self"]
abbrev P_Parser_fail : List Str := ["self"]
theorem o_Parser_fail : defOk N_Parser_fail P_Parser_fail (defScope s_Parser_fail) = true := by decide +kernel
noncomputable def M_Parser_fail : Mtt := []
noncomputable def b_Parser_fail : SF := (seqS (raiseS "InvalidDocument" (some "place") (ifE (boolE (bin2 ltS (attrE T_cls "at" (getV 0)) (bltE lenD [(attrE T_cls "words" (getV 0))]))) (bin2 ixDD (bin2 ixDD (attrE T_cls "words" (getV 0)) (attrE T_cls "at" (getV 0))) (cV (.int 0))) (attrE T_cls "end" (getV 0)))) nxS)
noncomputable def C_Parser_fail : CC := { sc := defScope s_Parser_fail, N := N_Parser_fail, isDef := true, fns := [], cst := [], blt := ["len"], mts := [], exs := [("InvalidDocument", some "place")], cls := T_cls, mth := M_Parser_fail, mks := [], kds := [] }
theorem e_Parser_fail : cSs 60 (C_Parser_fail) (defBody s_Parser_fail) = some (b_Parser_fail) := by kernel_rfl
noncomputable def F_Parser_fail : FF := runDef 1 b_Parser_fail
abbrev s_Parser_is_kind : Stmt := mbr (top 24) 3
abbrev N_Parser_is_kind : List Str := ["self", "kind"]
abbrev P_Parser_is_kind : List Str := ["self", "kind"]
theorem o_Parser_is_kind : defOk N_Parser_is_kind P_Parser_is_kind (defScope s_Parser_is_kind) = true := by decide +kernel
noncomputable def M_Parser_is_kind : Mtt := []
noncomputable def b_Parser_is_kind : SF := (seqS (retS (andE (bin2 ltS (attrE T_cls "at" (getV 0)) (bltE lenD [(attrE T_cls "words" (getV 0))])) (bin2 eqD (bin2 ixDD (bin2 ixDD (attrE T_cls "words" (getV 0)) (attrE T_cls "at" (getV 0))) (cV (.int 1))) (getV 1)))) nxS)
noncomputable def C_Parser_is_kind : CC := { sc := defScope s_Parser_is_kind, N := N_Parser_is_kind, isDef := true, fns := [], cst := [], blt := ["len"], mts := [], exs := [], cls := T_cls, mth := M_Parser_is_kind, mks := [], kds := [] }
theorem e_Parser_is_kind : cSs 60 (C_Parser_is_kind) (defBody s_Parser_is_kind) = some (b_Parser_is_kind) := by kernel_rfl
noncomputable def F_Parser_is_kind : FF := runDef 2 b_Parser_is_kind
abbrev s_Parser_take : Stmt := mbr (top 24) 4
abbrev N_Parser_take : List Str := ["self", "kind", "word"]
abbrev P_Parser_take : List Str := ["self", "kind"]
theorem o_Parser_take : defOk N_Parser_take P_Parser_take (defScope s_Parser_take) = true := by decide +kernel
noncomputable def M_Parser_take : Mtt := [(("Parser", "fail"), 1, F_Parser_fail), (("Parser", "is_kind"), 2, F_Parser_is_kind)]
@[simp] theorem lk_Parser_take_fail : M_Parser_take.lookup (("Parser" : Str), ("fail" : Str)) = some (1, F_Parser_fail) := rfl
@[simp] theorem lk_Parser_take_is_kind : M_Parser_take.lookup (("Parser" : Str), ("is_kind" : Str)) = some (2, F_Parser_is_kind) := rfl
noncomputable def b_Parser_take : SF := (seqS (ifS (notT (truE (callM M_Parser_take "is_kind" (getV 0) [(getV 1)]))) (seqS (exprS (callM M_Parser_take "fail" (getV 0) [])) nxS) nxS) (seqS (asgS (bin2 ixDD (bin2 ixDD (attrE T_cls "words" (getV 0)) (attrE T_cls "at" (getV 0))) (cV (.int 2))) (nameT 2)) (seqS (augF T_cls "at" addJ (getV 0) (cV (.int 1))) (seqS (retS (getV 2)) nxS))))
noncomputable def C_Parser_take : CC := { sc := defScope s_Parser_take, N := N_Parser_take, isDef := true, fns := [], cst := [], blt := [], mts := [], exs := [], cls := T_cls, mth := M_Parser_take, mks := [], kds := [] }
theorem e_Parser_take : cSs 60 (C_Parser_take) (defBody s_Parser_take) = some (b_Parser_take) := by kernel_rfl
noncomputable def F_Parser_take : FF := runDef 3 b_Parser_take
abbrev s_Parser_constant : Stmt := mbr (top 24) 8
abbrev N_Parser_constant : List Str := ["self"]
abbrev P_Parser_constant : List Str := ["self"]
theorem o_Parser_constant : defOk N_Parser_constant P_Parser_constant (defScope s_Parser_constant) = true := by decide +kernel
noncomputable def M_Parser_constant : Mtt := [(("Parser", "fail"), 1, F_Parser_fail), (("Parser", "is_kind"), 2, F_Parser_is_kind), (("Parser", "take"), 2, F_Parser_take)]
@[simp] theorem lk_Parser_constant_fail : M_Parser_constant.lookup (("Parser" : Str), ("fail" : Str)) = some (1, F_Parser_fail) := rfl
@[simp] theorem lk_Parser_constant_is_kind : M_Parser_constant.lookup (("Parser" : Str), ("is_kind" : Str)) = some (2, F_Parser_is_kind) := rfl
@[simp] theorem lk_Parser_constant_take : M_Parser_constant.lookup (("Parser" : Str), ("take" : Str)) = some (2, F_Parser_take) := rfl
noncomputable def b_Parser_constant : SF := (seqS (ifS (truE (callM M_Parser_constant "is_kind" (getV 0) [(cV (.str t_number))])) (seqS (retS (tupE [(cV (.str t_number)), (callM M_Parser_constant "take" (getV 0) [(cV (.str t_number))])])) nxS) nxS) (seqS (ifS (truE (callM M_Parser_constant "is_kind" (getV 0) [(cV (.str t_text))])) (seqS (retS (tupE [(cV (.str t_text)), (callM M_Parser_constant "take" (getV 0) [(cV (.str t_text))])])) nxS) nxS) (seqS (ifS (andT (truE (callM M_Parser_constant "is_kind" (getV 0) [(cV (.str t_name))])) (boolE (kdIn false tb_WORD_CONSTANTS (bin2 ixDD (bin2 ixDD (attrE T_cls "words" (getV 0)) (attrE T_cls "at" (getV 0))) (cV (.int 2)))))) (seqS (retS (kdGet tb_WORD_CONSTANTS (callM M_Parser_constant "take" (getV 0) [(cV (.str t_name))]))) nxS) nxS) (seqS (retS (callM M_Parser_constant "fail" (getV 0) [])) nxS))))
noncomputable def C_Parser_constant : CC := { sc := defScope s_Parser_constant, N := N_Parser_constant, isDef := true, fns := [], cst := [], blt := [], mts := [], exs := [], cls := T_cls, mth := M_Parser_constant, mks := [], kds := [("WORD_CONSTANTS", tb_WORD_CONSTANTS)] }
theorem e_Parser_constant : cSs 60 (C_Parser_constant) (defBody s_Parser_constant) = some (b_Parser_constant) := by kernel_rfl
noncomputable def F_Parser_constant : FF := runDef 1 b_Parser_constant
abbrev s_Parser_is_next : Stmt := mbr (top 24) 2
abbrev N_Parser_is_next : List Str := ["self", "kind", "word"]
abbrev P_Parser_is_next : List Str := ["self", "kind", "word"]
theorem o_Parser_is_next : defOk N_Parser_is_next P_Parser_is_next (defScope s_Parser_is_next) = true := by decide +kernel
noncomputable def M_Parser_is_next : Mtt := []
noncomputable def b_Parser_is_next : SF := (seqS (retS (andE (bin2 ltS (attrE T_cls "at" (getV 0)) (bltE lenD [(attrE T_cls "words" (getV 0))])) (bin2 eqD (sliceE (bin2 ixDD (attrE T_cls "words" (getV 0)) (attrE T_cls "at" (getV 0))) (some (cV (.int 1))) none) (tupE [(getV 1), (getV 2)])))) nxS)
noncomputable def C_Parser_is_next : CC := { sc := defScope s_Parser_is_next, N := N_Parser_is_next, isDef := true, fns := [], cst := [], blt := ["len"], mts := [], exs := [], cls := T_cls, mth := M_Parser_is_next, mks := [], kds := [] }
theorem e_Parser_is_next : cSs 60 (C_Parser_is_next) (defBody s_Parser_is_next) = some (b_Parser_is_next) := by kernel_rfl
noncomputable def F_Parser_is_next : FF := runDef 3 b_Parser_is_next
abbrev s_Parser_skip : Stmt := mbr (top 24) 5
abbrev N_Parser_skip : List Str := ["self", "kind", "word"]
abbrev P_Parser_skip : List Str := ["self", "kind", "word"]
theorem o_Parser_skip : defOk N_Parser_skip P_Parser_skip (defScope s_Parser_skip) = true := by decide +kernel
noncomputable def M_Parser_skip : Mtt := [(("Parser", "fail"), 1, F_Parser_fail), (("Parser", "is_next"), 3, F_Parser_is_next)]
@[simp] theorem lk_Parser_skip_fail : M_Parser_skip.lookup (("Parser" : Str), ("fail" : Str)) = some (1, F_Parser_fail) := rfl
@[simp] theorem lk_Parser_skip_is_next : M_Parser_skip.lookup (("Parser" : Str), ("is_next" : Str)) = some (3, F_Parser_is_next) := rfl
noncomputable def b_Parser_skip : SF := (seqS (ifS (notT (truE (callM M_Parser_skip "is_next" (getV 0) [(getV 1), (getV 2)]))) (seqS (exprS (callM M_Parser_skip "fail" (getV 0) [])) nxS) nxS) (seqS (augF T_cls "at" addJ (getV 0) (cV (.int 1))) nxS))
noncomputable def C_Parser_skip : CC := { sc := defScope s_Parser_skip, N := N_Parser_skip, isDef := true, fns := [], cst := [], blt := [], mts := [], exs := [], cls := T_cls, mth := M_Parser_skip, mks := [], kds := [] }
theorem e_Parser_skip : cSs 60 (C_Parser_skip) (defBody s_Parser_skip) = some (b_Parser_skip) := by kernel_rfl
noncomputable def F_Parser_skip : FF := runDef 3 b_Parser_skip
abbrev s_Parser_try_sign : Stmt := mbr (top 24) 6
abbrev N_Parser_try_sign : List Str := ["self", "word", "found"]
abbrev P_Parser_try_sign : List Str := ["self", "word"]
theorem o_Parser_try_sign : defOk N_Parser_try_sign P_Parser_try_sign (defScope s_Parser_try_sign) = true := by decide +kernel
noncomputable def M_Parser_try_sign : Mtt := [(("Parser", "is_next"), 3, F_Parser_is_next)]
@[simp] theorem lk_Parser_try_sign_is_next : M_Parser_try_sign.lookup (("Parser" : Str), ("is_next" : Str)) = some (3, F_Parser_is_next) := rfl
noncomputable def b_Parser_try_sign : SF := (seqS (asgS (callM M_Parser_try_sign "is_next" (getV 0) [(cV (.str t_sign)), (getV 1)]) (nameT 2)) (seqS (ifS (truE (getV 2)) (seqS (augF T_cls "at" addJ (getV 0) (cV (.int 1))) nxS) nxS) (seqS (retS (getV 2)) nxS)))
noncomputable def C_Parser_try_sign : CC := { sc := defScope s_Parser_try_sign, N := N_Parser_try_sign, isDef := true, fns := [], cst := [], blt := [], mts := [], exs := [], cls := T_cls, mth := M_Parser_try_sign, mks := [], kds := [] }
theorem e_Parser_try_sign : cSs 60 (C_Parser_try_sign) (defBody s_Parser_try_sign) = some (b_Parser_try_sign) := by kernel_rfl
noncomputable def F_Parser_try_sign : FF := runDef 3 b_Parser_try_sign
abbrev s_Parser_plain_name : Stmt := mbr (top 24) 7
abbrev N_Parser_plain_name : List Str := ["self"]
abbrev P_Parser_plain_name : List Str := ["self"]
theorem o_Parser_plain_name : defOk N_Parser_plain_name P_Parser_plain_name (defScope s_Parser_plain_name) = true := by decide +kernel
noncomputable def M_Parser_plain_name : Mtt := [(("Parser", "fail"), 1, F_Parser_fail), (("Parser", "is_next"), 3, F_Parser_is_next), (("Parser", "take"), 2, F_Parser_take)]
@[simp] theorem lk_Parser_plain_name_fail : M_Parser_plain_name.lookup (("Parser" : Str), ("fail" : Str)) = some (1, F_Parser_fail) := rfl
@[simp] theorem lk_Parser_plain_name_is_next : M_Parser_plain_name.lookup (("Parser" : Str), ("is_next" : Str)) = some (3, F_Parser_is_next) := rfl
@[simp] theorem lk_Parser_plain_name_take : M_Parser_plain_name.lookup (("Parser" : Str), ("take" : Str)) = some (2, F_Parser_take) := rfl
noncomputable def b_Parser_plain_name : SF := (seqS (ifS (truE (callM M_Parser_plain_name "is_next" (getV 0) [(cV (.str t_name)), (cV (.str t_meta))])) (seqS (exprS (callM M_Parser_plain_name "fail" (getV 0) [])) nxS) nxS) (seqS (retS (callM M_Parser_plain_name "take" (getV 0) [(cV (.str t_name))])) nxS))
noncomputable def C_Parser_plain_name : CC := { sc := defScope s_Parser_plain_name, N := N_Parser_plain_name, isDef := true, fns := [], cst := [("META", (.str t_meta))], blt := [], mts := [], exs := [], cls := [], mth := M_Parser_plain_name, mks := [], kds := [] }
theorem e_Parser_plain_name : cSs 60 (C_Parser_plain_name) (defBody s_Parser_plain_name) = some (b_Parser_plain_name) := by kernel_rfl
noncomputable def F_Parser_plain_name : FF := runDef 1 b_Parser_plain_name
abbrev s_Parser_type_at : Stmt := mbr (top 24) 10
abbrev N_Parser_type_at : List Str := ["self", "depth", "kind"]
abbrev P_Parser_type_at : List Str := ["self", "depth"]
theorem o_Parser_type_at : defOk N_Parser_type_at P_Parser_type_at (defScope s_Parser_type_at) = true := by decide +kernel
noncomputable def M_Parser_type_at (G_Parser_type_at : FF) : Mtt := [(("Parser", "fail"), 1, F_Parser_fail), (("Parser", "is_next"), 3, F_Parser_is_next), (("Parser", "plain_name"), 1, F_Parser_plain_name), (("Parser", "skip"), 3, F_Parser_skip), (("Parser", "try_sign"), 2, F_Parser_try_sign), (("Parser", "type_at"), 2, G_Parser_type_at)]
@[simp] theorem lk_Parser_type_at_fail (G_Parser_type_at : FF) : (M_Parser_type_at G_Parser_type_at).lookup (("Parser" : Str), ("fail" : Str)) = some (1, F_Parser_fail) := rfl
@[simp] theorem lk_Parser_type_at_is_next (G_Parser_type_at : FF) : (M_Parser_type_at G_Parser_type_at).lookup (("Parser" : Str), ("is_next" : Str)) = some (3, F_Parser_is_next) := rfl
@[simp] theorem lk_Parser_type_at_plain_name (G_Parser_type_at : FF) : (M_Parser_type_at G_Parser_type_at).lookup (("Parser" : Str), ("plain_name" : Str)) = some (1, F_Parser_plain_name) := rfl
@[simp] theorem lk_Parser_type_at_skip (G_Parser_type_at : FF) : (M_Parser_type_at G_Parser_type_at).lookup (("Parser" : Str), ("skip" : Str)) = some (3, F_Parser_skip) := rfl
@[simp] theorem lk_Parser_type_at_try_sign (G_Parser_type_at : FF) : (M_Parser_type_at G_Parser_type_at).lookup (("Parser" : Str), ("try_sign" : Str)) = some (2, F_Parser_try_sign) := rfl
@[simp] theorem lk_Parser_type_at_type_at (G_Parser_type_at : FF) : (M_Parser_type_at G_Parser_type_at).lookup (("Parser" : Str), ("type_at" : Str)) = some (2, G_Parser_type_at) := rfl
noncomputable def b_Parser_type_at (G_Parser_type_at : FF) : SF := (seqS (ifS (truE (callM (M_Parser_type_at G_Parser_type_at) "is_next" (getV 0) [(cV (.str t_sign)), (cV (.str [91]))])) (seqS (ifS (boolE (bin2 eqD (getV 1) (cV (.int 0)))) (seqS (exprS (callM (M_Parser_type_at G_Parser_type_at) "fail" (getV 0) [])) nxS) nxS) (seqS (exprS (callM (M_Parser_type_at G_Parser_type_at) "skip" (getV 0) [(cV (.str t_sign)), (cV (.str [91]))])) (seqS (asgS (tupE [(cV (.str t_list)), (callM (M_Parser_type_at G_Parser_type_at) "type_at" (getV 0) [(bin2 subD (getV 1) (cV (.int 1)))])]) (nameT 2)) (seqS (exprS (callM (M_Parser_type_at G_Parser_type_at) "skip" (getV 0) [(cV (.str t_sign)), (cV (.str [93]))])) nxS)))) (seqS (asgS (tupE [(cV (.str t_name)), (callM (M_Parser_type_at G_Parser_type_at) "plain_name" (getV 0) [])]) (nameT 2)) nxS)) (seqS (ifS (truE (callM (M_Parser_type_at G_Parser_type_at) "try_sign" (getV 0) [(cV (.str [33]))])) (seqS (retS (tupE [(cV (.str t_must)), (getV 2)])) nxS) nxS) (seqS (retS (getV 2)) nxS)))
noncomputable def C_Parser_type_at (G_Parser_type_at : FF) : CC := { sc := defScope s_Parser_type_at, N := N_Parser_type_at, isDef := true, fns := [], cst := [], blt := [], mts := [], exs := [], cls := [], mth := M_Parser_type_at G_Parser_type_at, mks := [], kds := [] }
theorem e_Parser_type_at (G_Parser_type_at : FF) : cSs 60 (C_Parser_type_at G_Parser_type_at) (defBody s_Parser_type_at) = some (b_Parser_type_at G_Parser_type_at) := by kernel_rfl
noncomputable def W_Parser_type_at : Nat → Nat → FF
  | 0, _ => fun _ _ => .stuck
  | n + 1, i => match i with
    | 0 => runDef 3 (b_Parser_type_at (W_Parser_type_at n 0))
    | _ => fun _ _ => .stuck
noncomputable abbrev F_Parser_type_at : FF := W_Parser_type_at 60 0
abbrev s_Parser_declarations : Stmt := mbr (top 24) 11
abbrev N_Parser_declarations : List Str := ["self", "variables", "name", "kind", "default"]
abbrev P_Parser_declarations : List Str := ["self"]
theorem o_Parser_declarations : defOk N_Parser_declarations P_Parser_declarations (defScope s_Parser_declarations) = true := by decide +kernel
noncomputable def M_Parser_declarations : Mtt := [(("Parser", "constant"), 1, F_Parser_constant), (("Parser", "skip"), 3, F_Parser_skip), (("Parser", "take"), 2, F_Parser_take), (("Parser", "try_sign"), 2, F_Parser_try_sign), (("Parser", "type_at"), 2, F_Parser_type_at)]
@[simp] theorem lk_Parser_declarations_constant : M_Parser_declarations.lookup (("Parser" : Str), ("constant" : Str)) = some (1, F_Parser_constant) := rfl
@[simp] theorem lk_Parser_declarations_skip : M_Parser_declarations.lookup (("Parser" : Str), ("skip" : Str)) = some (3, F_Parser_skip) := rfl
@[simp] theorem lk_Parser_declarations_take : M_Parser_declarations.lookup (("Parser" : Str), ("take" : Str)) = some (2, F_Parser_take) := rfl
@[simp] theorem lk_Parser_declarations_try_sign : M_Parser_declarations.lookup (("Parser" : Str), ("try_sign" : Str)) = some (2, F_Parser_try_sign) := rfl
@[simp] theorem lk_Parser_declarations_type_at : M_Parser_declarations.lookup (("Parser" : Str), ("type_at" : Str)) = some (2, F_Parser_type_at) := rfl
noncomputable def lt_Parser_declarations_1 : TF := (orT (notT (truE (getV 1))) (notT (truE (callM M_Parser_declarations "try_sign" (getV 0) [(cV (.str [41]))]))))
noncomputable def lb_Parser_declarations_1 : SF := (seqS (asgS (callM M_Parser_declarations "take" (getV 0) [(cV (.str t_variable))]) (nameT 2)) (seqS (exprS (callM M_Parser_declarations "skip" (getV 0) [(cV (.str t_sign)), (cV (.str [58]))])) (seqS (asgS (callM M_Parser_declarations "type_at" (getV 0) [(cV (.int 5))]) (nameT 3)) (seqS (asgS (ifE (truE (callM M_Parser_declarations "try_sign" (getV 0) [(cV (.str [61]))])) (callM M_Parser_declarations "constant" (getV 0) []) (cV .non)) (nameT 4)) (seqS (exprS (methE isLst appendD (getV 1) [(tupE [(getV 2), (getV 3), (getV 4)])])) nxS)))))
noncomputable def b_Parser_declarations : SF := (seqS (asgS (lstM []) (nameT 1)) (seqS (ifS (notT (truE (callM M_Parser_declarations "try_sign" (getV 0) [(cV (.str [40]))]))) (seqS (retS (tupE [])) nxS) nxS) (seqS (whileS lt_Parser_declarations_1 lb_Parser_declarations_1) (seqS (retS (bltE tupleD [(getV 1)])) nxS))))
noncomputable def C_Parser_declarations : CC := { sc := defScope s_Parser_declarations, N := N_Parser_declarations, isDef := true, fns := [], cst := [("MOST_LISTS", (.int 5))], blt := ["tuple"], mts := ["variables"], exs := [], cls := [], mth := M_Parser_declarations, mks := [], kds := [] }
theorem e_Parser_declarations : cSs 60 (C_Parser_declarations) (defBody s_Parser_declarations) = some (b_Parser_declarations) := by kernel_rfl
noncomputable def F_Parser_declarations : FF := runDef 5 b_Parser_declarations
abbrev s_Parser_value : Stmt := mbr (top 24) 9
abbrev N_Parser_value : List Str := ["self"]
abbrev P_Parser_value : List Str := ["self"]
theorem o_Parser_value : defOk N_Parser_value P_Parser_value (defScope s_Parser_value) = true := by decide +kernel
noncomputable def M_Parser_value : Mtt := [(("Parser", "constant"), 1, F_Parser_constant), (("Parser", "is_kind"), 2, F_Parser_is_kind), (("Parser", "take"), 2, F_Parser_take)]
@[simp] theorem lk_Parser_value_constant : M_Parser_value.lookup (("Parser" : Str), ("constant" : Str)) = some (1, F_Parser_constant) := rfl
@[simp] theorem lk_Parser_value_is_kind : M_Parser_value.lookup (("Parser" : Str), ("is_kind" : Str)) = some (2, F_Parser_is_kind) := rfl
@[simp] theorem lk_Parser_value_take : M_Parser_value.lookup (("Parser" : Str), ("take" : Str)) = some (2, F_Parser_take) := rfl
noncomputable def b_Parser_value : SF := (seqS (ifS (truE (callM M_Parser_value "is_kind" (getV 0) [(cV (.str t_variable))])) (seqS (retS (tupE [(cV (.str t_variable)), (callM M_Parser_value "take" (getV 0) [(cV (.str t_variable))])])) nxS) nxS) (seqS (retS (callM M_Parser_value "constant" (getV 0) [])) nxS))
noncomputable def C_Parser_value : CC := { sc := defScope s_Parser_value, N := N_Parser_value, isDef := true, fns := [], cst := [], blt := [], mts := [], exs := [], cls := [], mth := M_Parser_value, mks := [], kds := [] }
theorem e_Parser_value : cSs 60 (C_Parser_value) (defBody s_Parser_value) = some (b_Parser_value) := by kernel_rfl
noncomputable def F_Parser_value : FF := runDef 1 b_Parser_value
abbrev s_Parser_arguments : Stmt := mbr (top 24) 13
abbrev N_Parser_arguments : List Str := ["self", "found", "name"]
abbrev P_Parser_arguments : List Str := ["self"]
theorem o_Parser_arguments : defOk N_Parser_arguments P_Parser_arguments (defScope s_Parser_arguments) = true := by decide +kernel
noncomputable def M_Parser_arguments : Mtt := [(("Parser", "plain_name"), 1, F_Parser_plain_name), (("Parser", "skip"), 3, F_Parser_skip), (("Parser", "try_sign"), 2, F_Parser_try_sign), (("Parser", "value"), 1, F_Parser_value)]
@[simp] theorem lk_Parser_arguments_plain_name : M_Parser_arguments.lookup (("Parser" : Str), ("plain_name" : Str)) = some (1, F_Parser_plain_name) := rfl
@[simp] theorem lk_Parser_arguments_skip : M_Parser_arguments.lookup (("Parser" : Str), ("skip" : Str)) = some (3, F_Parser_skip) := rfl
@[simp] theorem lk_Parser_arguments_try_sign : M_Parser_arguments.lookup (("Parser" : Str), ("try_sign" : Str)) = some (2, F_Parser_try_sign) := rfl
@[simp] theorem lk_Parser_arguments_value : M_Parser_arguments.lookup (("Parser" : Str), ("value" : Str)) = some (1, F_Parser_value) := rfl
noncomputable def lt_Parser_arguments_1 : TF := (orT (notT (truE (getV 1))) (notT (truE (callM M_Parser_arguments "try_sign" (getV 0) [(cV (.str [41]))]))))
noncomputable def lb_Parser_arguments_1 : SF := (seqS (asgS (callM M_Parser_arguments "plain_name" (getV 0) []) (nameT 2)) (seqS (exprS (callM M_Parser_arguments "skip" (getV 0) [(cV (.str t_sign)), (cV (.str [58]))])) (seqS (exprS (methE isLst appendD (getV 1) [(tupE [(getV 2), (callM M_Parser_arguments "value" (getV 0) [])])])) nxS)))
noncomputable def b_Parser_arguments : SF := (seqS (asgS (lstM []) (nameT 1)) (seqS (ifS (notT (truE (callM M_Parser_arguments "try_sign" (getV 0) [(cV (.str [40]))]))) (seqS (retS (tupE [])) nxS) nxS) (seqS (whileS lt_Parser_arguments_1 lb_Parser_arguments_1) (seqS (retS (bltE tupleD [(getV 1)])) nxS))))
noncomputable def C_Parser_arguments : CC := { sc := defScope s_Parser_arguments, N := N_Parser_arguments, isDef := true, fns := [], cst := [], blt := ["tuple"], mts := ["found"], exs := [], cls := [], mth := M_Parser_arguments, mks := [], kds := [] }
theorem e_Parser_arguments : cSs 60 (C_Parser_arguments) (defBody s_Parser_arguments) = some (b_Parser_arguments) := by kernel_rfl
noncomputable def F_Parser_arguments : FF := runDef 3 b_Parser_arguments
abbrev s_Parser_conditions : Stmt := mbr (top 24) 12
abbrev N_Parser_conditions : List Str := ["self", "found", "word"]
abbrev P_Parser_conditions : List Str := ["self"]
theorem o_Parser_conditions : defOk N_Parser_conditions P_Parser_conditions (defScope s_Parser_conditions) = true := by decide +kernel
noncomputable def M_Parser_conditions : Mtt := [(("Parser", "fail"), 1, F_Parser_fail), (("Parser", "is_next"), 3, F_Parser_is_next), (("Parser", "skip"), 3, F_Parser_skip), (("Parser", "take"), 2, F_Parser_take), (("Parser", "try_sign"), 2, F_Parser_try_sign), (("Parser", "value"), 1, F_Parser_value)]
@[simp] theorem lk_Parser_conditions_fail : M_Parser_conditions.lookup (("Parser" : Str), ("fail" : Str)) = some (1, F_Parser_fail) := rfl
@[simp] theorem lk_Parser_conditions_is_next : M_Parser_conditions.lookup (("Parser" : Str), ("is_next" : Str)) = some (3, F_Parser_is_next) := rfl
@[simp] theorem lk_Parser_conditions_skip : M_Parser_conditions.lookup (("Parser" : Str), ("skip" : Str)) = some (3, F_Parser_skip) := rfl
@[simp] theorem lk_Parser_conditions_take : M_Parser_conditions.lookup (("Parser" : Str), ("take" : Str)) = some (2, F_Parser_take) := rfl
@[simp] theorem lk_Parser_conditions_try_sign : M_Parser_conditions.lookup (("Parser" : Str), ("try_sign" : Str)) = some (2, F_Parser_try_sign) := rfl
@[simp] theorem lk_Parser_conditions_value : M_Parser_conditions.lookup (("Parser" : Str), ("value" : Str)) = some (1, F_Parser_value) := rfl
noncomputable def lt_Parser_conditions_1 : TF := (truE (callM M_Parser_conditions "try_sign" (getV 0) [(cV (.str [64]))]))
noncomputable def lb_Parser_conditions_1 : SF := (seqS (ifS (andT (notT (truE (callM M_Parser_conditions "is_next" (getV 0) [(cV (.str t_name)), (cV (.str t_if))]))) (notT (truE (callM M_Parser_conditions "is_next" (getV 0) [(cV (.str t_name)), (cV (.str t_unless))])))) (seqS (exprS (callM M_Parser_conditions "fail" (getV 0) [])) nxS) nxS) (seqS (asgS (callM M_Parser_conditions "take" (getV 0) [(cV (.str t_name))]) (nameT 2)) (seqS (exprS (callM M_Parser_conditions "skip" (getV 0) [(cV (.str t_sign)), (cV (.str [40]))])) (seqS (exprS (methE isLst appendD (getV 1) [(tupE [(getV 2), (callM M_Parser_conditions "value" (getV 0) [])])])) (seqS (exprS (callM M_Parser_conditions "skip" (getV 0) [(cV (.str t_sign)), (cV (.str [41]))])) nxS)))))
noncomputable def b_Parser_conditions : SF := (seqS (asgS (lstM []) (nameT 1)) (seqS (whileS lt_Parser_conditions_1 lb_Parser_conditions_1) (seqS (retS (bltE tupleD [(getV 1)])) nxS)))
noncomputable def C_Parser_conditions : CC := { sc := defScope s_Parser_conditions, N := N_Parser_conditions, isDef := true, fns := [], cst := [], blt := ["tuple"], mts := ["found"], exs := [], cls := [], mth := M_Parser_conditions, mks := [], kds := [] }
theorem e_Parser_conditions : cSs 60 (C_Parser_conditions) (defBody s_Parser_conditions) = some (b_Parser_conditions) := by kernel_rfl
noncomputable def F_Parser_conditions : FF := runDef 3 b_Parser_conditions
abbrev s_Parser_field : Stmt := mbr (top 24) 14
abbrev N_Parser_field : List Str := ["self", "depth", "key", "name", "arguments", "conditions", "selection"]
abbrev P_Parser_field : List Str := ["self", "depth"]
theorem o_Parser_field : defOk N_Parser_field P_Parser_field (defScope s_Parser_field) = true := by decide +kernel
noncomputable def M_Parser_field (G_Parser_field : FF) (G_Parser_selection : FF) (G_Parser_spread : FF) : Mtt := [(("Parser", "arguments"), 1, F_Parser_arguments), (("Parser", "conditions"), 1, F_Parser_conditions), (("Parser", "fail"), 1, F_Parser_fail), (("Parser", "is_next"), 3, F_Parser_is_next), (("Parser", "selection"), 2, G_Parser_selection), (("Parser", "skip"), 3, F_Parser_skip), (("Parser", "take"), 2, F_Parser_take)]
@[simp] theorem lk_Parser_field_arguments (G_Parser_field : FF) (G_Parser_selection : FF) (G_Parser_spread : FF) : (M_Parser_field G_Parser_field G_Parser_selection G_Parser_spread).lookup (("Parser" : Str), ("arguments" : Str)) = some (1, F_Parser_arguments) := rfl
@[simp] theorem lk_Parser_field_conditions (G_Parser_field : FF) (G_Parser_selection : FF) (G_Parser_spread : FF) : (M_Parser_field G_Parser_field G_Parser_selection G_Parser_spread).lookup (("Parser" : Str), ("conditions" : Str)) = some (1, F_Parser_conditions) := rfl
@[simp] theorem lk_Parser_field_fail (G_Parser_field : FF) (G_Parser_selection : FF) (G_Parser_spread : FF) : (M_Parser_field G_Parser_field G_Parser_selection G_Parser_spread).lookup (("Parser" : Str), ("fail" : Str)) = some (1, F_Parser_fail) := rfl
@[simp] theorem lk_Parser_field_is_next (G_Parser_field : FF) (G_Parser_selection : FF) (G_Parser_spread : FF) : (M_Parser_field G_Parser_field G_Parser_selection G_Parser_spread).lookup (("Parser" : Str), ("is_next" : Str)) = some (3, F_Parser_is_next) := rfl
@[simp] theorem lk_Parser_field_selection (G_Parser_field : FF) (G_Parser_selection : FF) (G_Parser_spread : FF) : (M_Parser_field G_Parser_field G_Parser_selection G_Parser_spread).lookup (("Parser" : Str), ("selection" : Str)) = some (2, G_Parser_selection) := rfl
@[simp] theorem lk_Parser_field_skip (G_Parser_field : FF) (G_Parser_selection : FF) (G_Parser_spread : FF) : (M_Parser_field G_Parser_field G_Parser_selection G_Parser_spread).lookup (("Parser" : Str), ("skip" : Str)) = some (3, F_Parser_skip) := rfl
@[simp] theorem lk_Parser_field_take (G_Parser_field : FF) (G_Parser_selection : FF) (G_Parser_spread : FF) : (M_Parser_field G_Parser_field G_Parser_selection G_Parser_spread).lookup (("Parser" : Str), ("take" : Str)) = some (2, F_Parser_take) := rfl
noncomputable def sb_Parser_field_1 (G_Parser_field : FF) (G_Parser_selection : FF) (G_Parser_spread : FF) : SF := (asgS (callM (M_Parser_field G_Parser_field G_Parser_selection G_Parser_spread) "take" (getV 0) [(cV (.str t_name))]) (nameT 2))
noncomputable def sb_Parser_field_2 (G_Parser_field : FF) (G_Parser_selection : FF) (G_Parser_spread : FF) : SF := (asgS (getV 2) (nameT 3))
noncomputable def sb_Parser_field_3 (G_Parser_field : FF) (G_Parser_selection : FF) (G_Parser_spread : FF) : SF := (ifS (truE (callM (M_Parser_field G_Parser_field G_Parser_selection G_Parser_spread) "is_next" (getV 0) [(cV (.str t_sign)), (cV (.str [58]))])) (seqS (ifS (boolE (bin2 eqD (getV 2) (cV (.str t_meta)))) (seqS (exprS (callM (M_Parser_field G_Parser_field G_Parser_selection G_Parser_spread) "fail" (getV 0) [])) nxS) nxS) (seqS (exprS (callM (M_Parser_field G_Parser_field G_Parser_selection G_Parser_spread) "skip" (getV 0) [(cV (.str t_sign)), (cV (.str [58]))])) (seqS (asgS (callM (M_Parser_field G_Parser_field G_Parser_selection G_Parser_spread) "take" (getV 0) [(cV (.str t_name))]) (nameT 3)) nxS))) nxS)
noncomputable def sb_Parser_field_4 (G_Parser_field : FF) (G_Parser_selection : FF) (G_Parser_spread : FF) : SF := (asgS (callM (M_Parser_field G_Parser_field G_Parser_selection G_Parser_spread) "arguments" (getV 0) []) (nameT 4))
noncomputable def sb_Parser_field_5 (G_Parser_field : FF) (G_Parser_selection : FF) (G_Parser_spread : FF) : SF := (asgS (callM (M_Parser_field G_Parser_field G_Parser_selection G_Parser_spread) "conditions" (getV 0) []) (nameT 5))
noncomputable def sb_Parser_field_6 (G_Parser_field : FF) (G_Parser_selection : FF) (G_Parser_spread : FF) : SF := (asgS (ifE (truE (callM (M_Parser_field G_Parser_field G_Parser_selection G_Parser_spread) "is_next" (getV 0) [(cV (.str t_sign)), (cV (.str [123]))])) (callM (M_Parser_field G_Parser_field G_Parser_selection G_Parser_spread) "selection" (getV 0) [(bin2 subD (getV 1) (cV (.int 1)))]) (cV .non)) (nameT 6))
noncomputable def sb_Parser_field_7 (G_Parser_field : FF) (G_Parser_selection : FF) (G_Parser_spread : FF) : SF := (retS (tupE [(cV (.str t_field)), (getV 2), (getV 3), (getV 4), (getV 5), (getV 6)]))
noncomputable def b_Parser_field (G_Parser_field : FF) (G_Parser_selection : FF) (G_Parser_spread : FF) : SF := (seqS (sb_Parser_field_1 G_Parser_field G_Parser_selection G_Parser_spread) (seqS (sb_Parser_field_2 G_Parser_field G_Parser_selection G_Parser_spread) (seqS (sb_Parser_field_3 G_Parser_field G_Parser_selection G_Parser_spread) (seqS (sb_Parser_field_4 G_Parser_field G_Parser_selection G_Parser_spread) (seqS (sb_Parser_field_5 G_Parser_field G_Parser_selection G_Parser_spread) (seqS (sb_Parser_field_6 G_Parser_field G_Parser_selection G_Parser_spread) (seqS (sb_Parser_field_7 G_Parser_field G_Parser_selection G_Parser_spread) nxS)))))))
noncomputable def C_Parser_field (G_Parser_field : FF) (G_Parser_selection : FF) (G_Parser_spread : FF) : CC := { sc := defScope s_Parser_field, N := N_Parser_field, isDef := true, fns := [], cst := [("META", (.str t_meta))], blt := [], mts := [], exs := [], cls := [], mth := M_Parser_field G_Parser_field G_Parser_selection G_Parser_spread, mks := [], kds := [] }
theorem e_Parser_field (G_Parser_field : FF) (G_Parser_selection : FF) (G_Parser_spread : FF) : cSs 60 (C_Parser_field G_Parser_field G_Parser_selection G_Parser_spread) (defBody s_Parser_field) = some (b_Parser_field G_Parser_field G_Parser_selection G_Parser_spread) := by kernel_rfl
abbrev s_Parser_selection : Stmt := mbr (top 24) 16
abbrev N_Parser_selection : List Str := ["self", "depth", "parts"]
abbrev P_Parser_selection : List Str := ["self", "depth"]
theorem o_Parser_selection : defOk N_Parser_selection P_Parser_selection (defScope s_Parser_selection) = true := by decide +kernel
noncomputable def M_Parser_selection (G_Parser_field : FF) (G_Parser_selection : FF) (G_Parser_spread : FF) : Mtt := [(("Parser", "fail"), 1, F_Parser_fail), (("Parser", "field"), 2, G_Parser_field), (("Parser", "is_next"), 3, F_Parser_is_next), (("Parser", "skip"), 3, F_Parser_skip), (("Parser", "spread"), 2, G_Parser_spread), (("Parser", "try_sign"), 2, F_Parser_try_sign)]
@[simp] theorem lk_Parser_selection_fail (G_Parser_field : FF) (G_Parser_selection : FF) (G_Parser_spread : FF) : (M_Parser_selection G_Parser_field G_Parser_selection G_Parser_spread).lookup (("Parser" : Str), ("fail" : Str)) = some (1, F_Parser_fail) := rfl
@[simp] theorem lk_Parser_selection_field (G_Parser_field : FF) (G_Parser_selection : FF) (G_Parser_spread : FF) : (M_Parser_selection G_Parser_field G_Parser_selection G_Parser_spread).lookup (("Parser" : Str), ("field" : Str)) = some (2, G_Parser_field) := rfl
@[simp] theorem lk_Parser_selection_is_next (G_Parser_field : FF) (G_Parser_selection : FF) (G_Parser_spread : FF) : (M_Parser_selection G_Parser_field G_Parser_selection G_Parser_spread).lookup (("Parser" : Str), ("is_next" : Str)) = some (3, F_Parser_is_next) := rfl
@[simp] theorem lk_Parser_selection_skip (G_Parser_field : FF) (G_Parser_selection : FF) (G_Parser_spread : FF) : (M_Parser_selection G_Parser_field G_Parser_selection G_Parser_spread).lookup (("Parser" : Str), ("skip" : Str)) = some (3, F_Parser_skip) := rfl
@[simp] theorem lk_Parser_selection_spread (G_Parser_field : FF) (G_Parser_selection : FF) (G_Parser_spread : FF) : (M_Parser_selection G_Parser_field G_Parser_selection G_Parser_spread).lookup (("Parser" : Str), ("spread" : Str)) = some (2, G_Parser_spread) := rfl
@[simp] theorem lk_Parser_selection_try_sign (G_Parser_field : FF) (G_Parser_selection : FF) (G_Parser_spread : FF) : (M_Parser_selection G_Parser_field G_Parser_selection G_Parser_spread).lookup (("Parser" : Str), ("try_sign" : Str)) = some (2, F_Parser_try_sign) := rfl
noncomputable def lt_Parser_selection_1 (G_Parser_field : FF) (G_Parser_selection : FF) (G_Parser_spread : FF) : TF := (orT (notT (truE (getV 2))) (notT (truE (callM (M_Parser_selection G_Parser_field G_Parser_selection G_Parser_spread) "try_sign" (getV 0) [(cV (.str [125]))]))))
noncomputable def lb_Parser_selection_1 (G_Parser_field : FF) (G_Parser_selection : FF) (G_Parser_spread : FF) : SF := (seqS (ifS (truE (callM (M_Parser_selection G_Parser_field G_Parser_selection G_Parser_spread) "try_sign" (getV 0) [(cV (.str t_dots))])) (seqS (exprS (methE isLst appendD (getV 2) [(callM (M_Parser_selection G_Parser_field G_Parser_selection G_Parser_spread) "spread" (getV 0) [(getV 1)])])) nxS) (seqS (exprS (methE isLst appendD (getV 2) [(callM (M_Parser_selection G_Parser_field G_Parser_selection G_Parser_spread) "field" (getV 0) [(getV 1)])])) nxS)) nxS)
noncomputable def b_Parser_selection (G_Parser_field : FF) (G_Parser_selection : FF) (G_Parser_spread : FF) : SF := (seqS (ifS (andT (truE (callM (M_Parser_selection G_Parser_field G_Parser_selection G_Parser_spread) "is_next" (getV 0) [(cV (.str t_sign)), (cV (.str [123]))])) (boolE (bin2 eqD (getV 1) (cV (.int 0))))) (seqS (exprS (callM (M_Parser_selection G_Parser_field G_Parser_selection G_Parser_spread) "fail" (getV 0) [])) nxS) nxS) (seqS (exprS (callM (M_Parser_selection G_Parser_field G_Parser_selection G_Parser_spread) "skip" (getV 0) [(cV (.str t_sign)), (cV (.str [123]))])) (seqS (asgS (lstM []) (nameT 2)) (seqS (whileS (lt_Parser_selection_1 G_Parser_field G_Parser_selection G_Parser_spread) (lb_Parser_selection_1 G_Parser_field G_Parser_selection G_Parser_spread)) (seqS (retS (bltE tupleD [(getV 2)])) nxS)))))
noncomputable def C_Parser_selection (G_Parser_field : FF) (G_Parser_selection : FF) (G_Parser_spread : FF) : CC := { sc := defScope s_Parser_selection, N := N_Parser_selection, isDef := true, fns := [], cst := [], blt := ["tuple"], mts := ["parts"], exs := [], cls := [], mth := M_Parser_selection G_Parser_field G_Parser_selection G_Parser_spread, mks := [], kds := [] }
theorem e_Parser_selection (G_Parser_field : FF) (G_Parser_selection : FF) (G_Parser_spread : FF) : cSs 60 (C_Parser_selection G_Parser_field G_Parser_selection G_Parser_spread) (defBody s_Parser_selection) = some (b_Parser_selection G_Parser_field G_Parser_selection G_Parser_spread) := by kernel_rfl
abbrev s_Parser_spread : Stmt := mbr (top 24) 15
abbrev N_Parser_spread : List Str := ["self", "depth", "name", "conditions"]
abbrev P_Parser_spread : List Str := ["self", "depth"]
theorem o_Parser_spread : defOk N_Parser_spread P_Parser_spread (defScope s_Parser_spread) = true := by decide +kernel
noncomputable def M_Parser_spread (G_Parser_field : FF) (G_Parser_selection : FF) (G_Parser_spread : FF) : Mtt := [(("Parser", "conditions"), 1, F_Parser_conditions), (("Parser", "is_kind"), 2, F_Parser_is_kind), (("Parser", "is_next"), 3, F_Parser_is_next), (("Parser", "plain_name"), 1, F_Parser_plain_name), (("Parser", "selection"), 2, G_Parser_selection), (("Parser", "skip"), 3, F_Parser_skip)]
@[simp] theorem lk_Parser_spread_conditions (G_Parser_field : FF) (G_Parser_selection : FF) (G_Parser_spread : FF) : (M_Parser_spread G_Parser_field G_Parser_selection G_Parser_spread).lookup (("Parser" : Str), ("conditions" : Str)) = some (1, F_Parser_conditions) := rfl
@[simp] theorem lk_Parser_spread_is_kind (G_Parser_field : FF) (G_Parser_selection : FF) (G_Parser_spread : FF) : (M_Parser_spread G_Parser_field G_Parser_selection G_Parser_spread).lookup (("Parser" : Str), ("is_kind" : Str)) = some (2, F_Parser_is_kind) := rfl
@[simp] theorem lk_Parser_spread_is_next (G_Parser_field : FF) (G_Parser_selection : FF) (G_Parser_spread : FF) : (M_Parser_spread G_Parser_field G_Parser_selection G_Parser_spread).lookup (("Parser" : Str), ("is_next" : Str)) = some (3, F_Parser_is_next) := rfl
@[simp] theorem lk_Parser_spread_plain_name (G_Parser_field : FF) (G_Parser_selection : FF) (G_Parser_spread : FF) : (M_Parser_spread G_Parser_field G_Parser_selection G_Parser_spread).lookup (("Parser" : Str), ("plain_name" : Str)) = some (1, F_Parser_plain_name) := rfl
@[simp] theorem lk_Parser_spread_selection (G_Parser_field : FF) (G_Parser_selection : FF) (G_Parser_spread : FF) : (M_Parser_spread G_Parser_field G_Parser_selection G_Parser_spread).lookup (("Parser" : Str), ("selection" : Str)) = some (2, G_Parser_selection) := rfl
@[simp] theorem lk_Parser_spread_skip (G_Parser_field : FF) (G_Parser_selection : FF) (G_Parser_spread : FF) : (M_Parser_spread G_Parser_field G_Parser_selection G_Parser_spread).lookup (("Parser" : Str), ("skip" : Str)) = some (3, F_Parser_skip) := rfl
noncomputable def sb_Parser_spread_1 (G_Parser_field : FF) (G_Parser_selection : FF) (G_Parser_spread : FF) : SF := (asgS (cV .non) (nameT 2))
noncomputable def sb_Parser_spread_2 (G_Parser_field : FF) (G_Parser_selection : FF) (G_Parser_spread : FF) : SF := (ifS (truE (callM (M_Parser_spread G_Parser_field G_Parser_selection G_Parser_spread) "is_next" (getV 0) [(cV (.str t_name)), (cV (.str t_on))])) (seqS (exprS (callM (M_Parser_spread G_Parser_field G_Parser_selection G_Parser_spread) "skip" (getV 0) [(cV (.str t_name)), (cV (.str t_on))])) (seqS (asgS (callM (M_Parser_spread G_Parser_field G_Parser_selection G_Parser_spread) "plain_name" (getV 0) []) (nameT 2)) nxS)) (seqS (ifS (truE (callM (M_Parser_spread G_Parser_field G_Parser_selection G_Parser_spread) "is_kind" (getV 0) [(cV (.str t_name))])) (seqS (asgS (callM (M_Parser_spread G_Parser_field G_Parser_selection G_Parser_spread) "plain_name" (getV 0) []) (nameT 2)) (seqS (retS (tupE [(cV (.str t_spread)), (getV 2), (callM (M_Parser_spread G_Parser_field G_Parser_selection G_Parser_spread) "conditions" (getV 0) [])])) nxS)) nxS) nxS))
noncomputable def sb_Parser_spread_3 (G_Parser_field : FF) (G_Parser_selection : FF) (G_Parser_spread : FF) : SF := (asgS (callM (M_Parser_spread G_Parser_field G_Parser_selection G_Parser_spread) "conditions" (getV 0) []) (nameT 3))
noncomputable def sb_Parser_spread_4 (G_Parser_field : FF) (G_Parser_selection : FF) (G_Parser_spread : FF) : SF := (retS (tupE [(cV (.str t_on)), (getV 2), (getV 3), (callM (M_Parser_spread G_Parser_field G_Parser_selection G_Parser_spread) "selection" (getV 0) [(bin2 subD (getV 1) (cV (.int 1)))])]))
noncomputable def b_Parser_spread (G_Parser_field : FF) (G_Parser_selection : FF) (G_Parser_spread : FF) : SF := (seqS (sb_Parser_spread_1 G_Parser_field G_Parser_selection G_Parser_spread) (seqS (sb_Parser_spread_2 G_Parser_field G_Parser_selection G_Parser_spread) (seqS (sb_Parser_spread_3 G_Parser_field G_Parser_selection G_Parser_spread) (seqS (sb_Parser_spread_4 G_Parser_field G_Parser_selection G_Parser_spread) nxS))))
noncomputable def C_Parser_spread (G_Parser_field : FF) (G_Parser_selection : FF) (G_Parser_spread : FF) : CC := { sc := defScope s_Parser_spread, N := N_Parser_spread, isDef := true, fns := [], cst := [], blt := [], mts := [], exs := [], cls := [], mth := M_Parser_spread G_Parser_field G_Parser_selection G_Parser_spread, mks := [], kds := [] }
theorem e_Parser_spread (G_Parser_field : FF) (G_Parser_selection : FF) (G_Parser_spread : FF) : cSs 60 (C_Parser_spread G_Parser_field G_Parser_selection G_Parser_spread) (defBody s_Parser_spread) = some (b_Parser_spread G_Parser_field G_Parser_selection G_Parser_spread) := by kernel_rfl
noncomputable def W_Parser_field : Nat → Nat → FF
  | 0, _ => fun _ _ => .stuck
  | n + 1, i => match i with
    | 0 => runDef 7 (b_Parser_field (W_Parser_field n 0) (W_Parser_field n 1) (W_Parser_field n 2))
    | 1 => runDef 3 (b_Parser_selection (W_Parser_field n 0) (W_Parser_field n 1) (W_Parser_field n 2))
    | 2 => runDef 4 (b_Parser_spread (W_Parser_field n 0) (W_Parser_field n 1) (W_Parser_field n 2))
    | _ => fun _ _ => .stuck
noncomputable abbrev F_Parser_field : FF := W_Parser_field 60 0
noncomputable abbrev F_Parser_selection : FF := W_Parser_field 60 1
noncomputable abbrev F_Parser_spread : FF := W_Parser_field 60 2
abbrev s_Parser_fragment : Stmt := mbr (top 24) 17
abbrev N_Parser_fragment : List Str := ["self", "name", "type_name"]
abbrev P_Parser_fragment : List Str := ["self"]
theorem o_Parser_fragment : defOk N_Parser_fragment P_Parser_fragment (defScope s_Parser_fragment) = true := by decide +kernel
noncomputable def M_Parser_fragment : Mtt := [(("Parser", "fail"), 1, F_Parser_fail), (("Parser", "is_next"), 3, F_Parser_is_next), (("Parser", "plain_name"), 1, F_Parser_plain_name), (("Parser", "selection"), 2, F_Parser_selection), (("Parser", "skip"), 3, F_Parser_skip)]
@[simp] theorem lk_Parser_fragment_fail : M_Parser_fragment.lookup (("Parser" : Str), ("fail" : Str)) = some (1, F_Parser_fail) := rfl
@[simp] theorem lk_Parser_fragment_is_next : M_Parser_fragment.lookup (("Parser" : Str), ("is_next" : Str)) = some (3, F_Parser_is_next) := rfl
@[simp] theorem lk_Parser_fragment_plain_name : M_Parser_fragment.lookup (("Parser" : Str), ("plain_name" : Str)) = some (1, F_Parser_plain_name) := rfl
@[simp] theorem lk_Parser_fragment_selection : M_Parser_fragment.lookup (("Parser" : Str), ("selection" : Str)) = some (2, F_Parser_selection) := rfl
@[simp] theorem lk_Parser_fragment_skip : M_Parser_fragment.lookup (("Parser" : Str), ("skip" : Str)) = some (3, F_Parser_skip) := rfl
noncomputable def b_Parser_fragment : SF := (seqS (exprS (callM M_Parser_fragment "skip" (getV 0) [(cV (.str t_name)), (cV (.str t_fragment))])) (seqS (ifS (truE (callM M_Parser_fragment "is_next" (getV 0) [(cV (.str t_name)), (cV (.str t_on))])) (seqS (exprS (callM M_Parser_fragment "fail" (getV 0) [])) nxS) nxS) (seqS (asgS (callM M_Parser_fragment "plain_name" (getV 0) []) (nameT 1)) (seqS (exprS (callM M_Parser_fragment "skip" (getV 0) [(cV (.str t_name)), (cV (.str t_on))])) (seqS (asgS (callM M_Parser_fragment "plain_name" (getV 0) []) (nameT 2)) (seqS (retS (tupE [(getV 1), (getV 2), (callM M_Parser_fragment "selection" (getV 0) [(cV (.int 10))])])) nxS))))))
noncomputable def C_Parser_fragment : CC := { sc := defScope s_Parser_fragment, N := N_Parser_fragment, isDef := true, fns := [], cst := [("MOST_DEPTH", (.int 10))], blt := [], mts := [], exs := [], cls := [], mth := M_Parser_fragment, mks := [], kds := [] }
theorem e_Parser_fragment : cSs 60 (C_Parser_fragment) (defBody s_Parser_fragment) = some (b_Parser_fragment) := by kernel_rfl
noncomputable def F_Parser_fragment : FF := runDef 3 b_Parser_fragment
abbrev s_Parser_document : Stmt := mbr (top 24) 18
abbrev N_Parser_document : List Str := ["self", "variables", "selection", "fragments"]
abbrev P_Parser_document : List Str := ["self"]
theorem o_Parser_document : defOk N_Parser_document P_Parser_document (defScope s_Parser_document) = true := by decide +kernel
noncomputable def M_Parser_document : Mtt := [(("Parser", "declarations"), 1, F_Parser_declarations), (("Parser", "fail"), 1, F_Parser_fail), (("Parser", "fragment"), 1, F_Parser_fragment), (("Parser", "is_next"), 3, F_Parser_is_next), (("Parser", "selection"), 2, F_Parser_selection), (("Parser", "skip"), 3, F_Parser_skip)]
@[simp] theorem lk_Parser_document_declarations : M_Parser_document.lookup (("Parser" : Str), ("declarations" : Str)) = some (1, F_Parser_declarations) := rfl
@[simp] theorem lk_Parser_document_fail : M_Parser_document.lookup (("Parser" : Str), ("fail" : Str)) = some (1, F_Parser_fail) := rfl
@[simp] theorem lk_Parser_document_fragment : M_Parser_document.lookup (("Parser" : Str), ("fragment" : Str)) = some (1, F_Parser_fragment) := rfl
@[simp] theorem lk_Parser_document_is_next : M_Parser_document.lookup (("Parser" : Str), ("is_next" : Str)) = some (3, F_Parser_is_next) := rfl
@[simp] theorem lk_Parser_document_selection : M_Parser_document.lookup (("Parser" : Str), ("selection" : Str)) = some (2, F_Parser_selection) := rfl
@[simp] theorem lk_Parser_document_skip : M_Parser_document.lookup (("Parser" : Str), ("skip" : Str)) = some (3, F_Parser_skip) := rfl
noncomputable def lt_Parser_document_1 : TF := (boolE (bin2 ltS (attrE T_cls "at" (getV 0)) (bltE lenD [(attrE T_cls "words" (getV 0))])))
noncomputable def lb_Parser_document_1 : SF := (seqS (ifS (andT (truE (callM M_Parser_document "is_next" (getV 0) [(cV (.str t_name)), (cV (.str t_fragment))])) (boolE (bin2 eqD (bltE lenD [(getV 3)]) (cV (.int 10))))) (seqS (exprS (callM M_Parser_document "fail" (getV 0) [])) nxS) nxS) (seqS (exprS (methE isLst appendD (getV 3) [(callM M_Parser_document "fragment" (getV 0) [])])) nxS))
noncomputable def sb_Parser_document_1 : SF := (exprS (callM M_Parser_document "skip" (getV 0) [(cV (.str t_name)), (cV (.str t_query))]))
noncomputable def sb_Parser_document_2 : SF := (asgS (callM M_Parser_document "declarations" (getV 0) []) (nameT 1))
noncomputable def sb_Parser_document_3 : SF := (asgS (callM M_Parser_document "selection" (getV 0) [(cV (.int 10))]) (nameT 2))
noncomputable def sb_Parser_document_4 : SF := (asgS (lstM []) (nameT 3))
noncomputable def sb_Parser_document_5 : SF := (whileS lt_Parser_document_1 lb_Parser_document_1)
noncomputable def sb_Parser_document_6 : SF := (retS (makeE "Document" 4 F_Document_init [(getV 1), (getV 2), (bltE tupleD [(getV 3)])]))
noncomputable def b_Parser_document : SF := (seqS sb_Parser_document_1 (seqS sb_Parser_document_2 (seqS sb_Parser_document_3 (seqS sb_Parser_document_4 (seqS sb_Parser_document_5 (seqS sb_Parser_document_6 nxS))))))
noncomputable def C_Parser_document : CC := { sc := defScope s_Parser_document, N := N_Parser_document, isDef := true, fns := [], cst := [("MOST_DEPTH", (.int 10)), ("MOST_FRAGMENTS", (.int 10))], blt := ["len", "tuple"], mts := ["fragments"], exs := [], cls := T_cls, mth := M_Parser_document, mks := [("Document", 4, F_Document_init)], kds := [] }
theorem e_Parser_document : cSs 60 (C_Parser_document) (defBody s_Parser_document) = some (b_Parser_document) := by kernel_rfl
noncomputable def F_Parser_document : FF := runDef 4 b_Parser_document
abbrev s_parse_document : Stmt := top 25
abbrev N_parse_document : List Str := ["text"]
abbrev P_parse_document : List Str := ["text"]
theorem o_parse_document : defOk N_parse_document P_parse_document (defScope s_parse_document) = true := by decide +kernel
noncomputable def M_parse_document : Mtt := [(("Parser", "document"), 1, F_Parser_document)]
@[simp] theorem lk_parse_document_document : M_parse_document.lookup (("Parser" : Str), ("document" : Str)) = some (1, F_Parser_document) := rfl
noncomputable def b_parse_document : SF := (seqS (retS (callM M_parse_document "document" (makeE "Parser" 2 F_Parser_init [(getV 0)]) [])) nxS)
noncomputable def C_parse_document : CC := { sc := defScope s_parse_document, N := N_parse_document, isDef := true, fns := [], cst := [], blt := [], mts := [], exs := [], cls := [], mth := M_parse_document, mks := [("Parser", 2, F_Parser_init)], kds := [] }
theorem e_parse_document : cSs 60 (C_parse_document) (defBody s_parse_document) = some (b_parse_document) := by kernel_rfl
noncomputable def F_parse_document : FF := runDef 1 b_parse_document
abbrev s_l_refill : Stmt := top 28
abbrev N_l_refill : List Str := ["_law_script", "_law_k", "_law_cell"]
abbrev P_l_refill : List Str := ["_law_script", "_law_k"]
theorem o_l_refill : defOk N_l_refill P_l_refill (defScope s_l_refill) = true := by decide +kernel
noncomputable def M_l_refill : Mtt := []
noncomputable def b_l_refill : SF := (seqS (asgS (cV (.int 0)) (nameT 2)) (seqS (ifS (truE (getV 0)) (seqS (asgS (bin2 ixDD (getV 0) (bin2 modD (getV 1) (bltE lenD [(getV 0)]))) (nameT 2)) nxS) nxS) (seqS (ifS (boolE (bin2 ltS (getV 2) (cV (.int 0)))) (seqS (asgS (bin2 subD (cV (.int 1)) (bin2 mulSD (cV (.int 2)) (getV 2))) (nameT 2)) nxS) nxS) (seqS (ifS (andT (boolE (bin2 (cmpI fun i j => decide (j ≤ i)) (getV 2) (bin2 powD (cV (.int 10)) (cV (.int 18))))) (boolE (bin2 ltS (getV 1) (bltE lenD [(getV 0)])))) (seqS (retS (getV 2)) nxS) nxS) (seqS (retS (bin2 modD (bltE intD [(bin2 addD (bin2 mulSD (bltE intD [(bin2 addD (bin2 addD (bin2 mulSD (getV 2) (cV (.int 48271))) (bin2 mulSD (getV 1) (cV (.int 69621)))) (cV (.int 12345)))]) (cV (.int 40692))) (cV (.int 7)))]) (cV (.int 2147483399)))) nxS)))))
noncomputable def C_l_refill : CC := { sc := defScope s_l_refill, N := N_l_refill, isDef := true, fns := [], cst := [], blt := ["int", "len"], mts := [], exs := [], cls := [], mth := M_l_refill, mks := [], kds := [] }
theorem e_l_refill : cSs 60 (C_l_refill) (defBody s_l_refill) = some (b_l_refill) := by kernel_rfl
noncomputable def F_l_refill : FF := runDef 3 b_l_refill
abbrev s_l_draw : Stmt := top 29
abbrev N_l_draw : List Str := ["_law_state", "_law_script", "_law_size", "_law_digit"]
abbrev P_l_draw : List Str := ["_law_state", "_law_script", "_law_size"]
theorem o_l_draw : defOk N_l_draw P_l_draw (defScope s_l_draw) = true := by decide +kernel
noncomputable def M_l_draw : Mtt := []
noncomputable def b_l_draw : SF := (seqS (ifS (boolE (bin2 eqD (bin2 ixDD (getV 0) (cV (.int 1))) (cV (.int 0)))) (seqS (asgS (callE 2 F_l_refill [(getV 1), (bin2 ixDD (getV 0) (cV (.int 0)))]) (subT (getV 0) (cV (.int 1)))) (seqS (asgS (bin2 addD (bin2 ixDD (getV 0) (cV (.int 0))) (cV (.int 1))) (subT (getV 0) (cV (.int 0)))) nxS)) nxS) (seqS (asgS (bin2 modD (bltE intD [(bin2 ixDD (getV 0) (cV (.int 1)))]) (getV 2)) (nameT 3)) (seqS (asgS (bin2 fdivD (bin2 ixDD (getV 0) (cV (.int 1))) (getV 2)) (subT (getV 0) (cV (.int 1)))) (seqS (retS (getV 3)) nxS))))
noncomputable def C_l_draw : CC := { sc := defScope s_l_draw, N := N_l_draw, isDef := true, fns := [("_law_refill", 2, F_l_refill)], cst := [], blt := ["int"], mts := [], exs := [], cls := [], mth := M_l_draw, mks := [], kds := [] }
theorem e_l_draw : cSs 60 (C_l_draw) (defBody s_l_draw) = some (b_l_draw) := by kernel_rfl
noncomputable def F_l_draw : FF := runDef 4 b_l_draw
abbrev s_l_run : Stmt := top 30
abbrev N_l_run : List Str := ["_law_text", "_law_at", "_law_signs", "_law_end", "_law_k"]
abbrev P_l_run : List Str := ["_law_text", "_law_at", "_law_signs"]
theorem o_l_run : defOk N_l_run P_l_run (defScope s_l_run) = true := by decide +kernel
noncomputable def M_l_run : Mtt := []
noncomputable def b_l_run : SF := (seqS (asgS (getV 1) (nameT 3)) (seqS (forS (rng2I (getV 1) (bltE lenD [(getV 0)])) (nameT 4) (seqS (ifS (andT (boolE (bin2 eqD (getV 3) (getV 4))) (boolE (bin2 (inDD false) (bin2 ixDD (getV 0) (getV 4)) (getV 2)))) (seqS (asgS (bin2 addD (getV 4) (cV (.int 1))) (nameT 3)) nxS) nxS) nxS)) (seqS (retS (getV 3)) nxS)))
noncomputable def C_l_run : CC := { sc := defScope s_l_run, N := N_l_run, isDef := true, fns := [], cst := [], blt := ["len", "range"], mts := [], exs := [], cls := [], mth := M_l_run, mks := [], kds := [] }
theorem e_l_run : cSs 60 (C_l_run) (defBody s_l_run) = some (b_l_run) := by kernel_rfl
noncomputable def F_l_run : FF := runDef 5 b_l_run
abbrev s_l_named : Stmt := top 31
abbrev N_l_named : List Str := ["_law_text", "_law_at", "_law_place", "_law_letters", "_law_end", "_law_name"]
abbrev P_l_named : List Str := ["_law_text", "_law_at", "_law_place"]
theorem o_l_named : defOk N_l_named P_l_named (defScope s_l_named) = true := by decide +kernel
noncomputable def M_l_named : Mtt := []
noncomputable def b_l_named : SF := (seqS (asgS (cV (.str t_LET)) (nameT 3)) (seqS (asgS (callE 3 F_l_run [(getV 0), (getV 1), (bin2 addD (getV 3) (cV (.str t_digu)))]) (nameT 4)) (seqS (asgS (sliceE (getV 0) (some (getV 1)) (some (getV 4))) (nameT 5)) (seqS (ifS (andT (boolE (bin2 neD (getV 5) (cV (.str t_meta)))) (orT (boolE (bin2 eqD (getV 5) (cV (.str [])))) (orT (boolE (bin2 (inDD true) (bin2 ixDD (getV 5) (cV (.int 0))) (getV 3))) (boolE (bin2 (cmpI fun i j => decide (j < i)) (bltE lenD [(getV 5)]) (cV (.int 30))))))) (seqS (retS (tupE [(cV (.str t_fault)), (getV 2)])) nxS) nxS) (seqS (retS (tupE [(cV (.str t_word)), (getV 5), (getV 4)])) nxS)))))
noncomputable def C_l_named : CC := { sc := defScope s_l_named, N := N_l_named, isDef := true, fns := [("_law_run", 3, F_l_run)], cst := [], blt := ["len"], mts := [], exs := [], cls := [], mth := M_l_named, mks := [], kds := [] }
theorem e_l_named : cSs 60 (C_l_named) (defBody s_l_named) = some (b_l_named) := by kernel_rfl
noncomputable def F_l_named : FF := runDef 6 b_l_named
abbrev s_l_word_at : Stmt := top 32
abbrev N_l_word_at : List Str := ["_law_text", "_law_at", "_law_sign", "_law_end", "_law_begin", "_law_number", "_law_found"]
abbrev P_l_word_at : List Str := ["_law_text", "_law_at"]
theorem o_l_word_at : defOk N_l_word_at P_l_word_at (defScope s_l_word_at) = true := by decide +kernel
noncomputable def M_l_word_at : Mtt := []
noncomputable def b_l_word_at : SF := (seqS (asgS (bin2 ixDD (getV 0) (getV 1)) (nameT 2)) (seqS (ifS (boolE (bin2 (inDD false) (getV 2) (cV (.str t_SIG)))) (seqS (retS (tupE [(cV (.str t_word)), (tupE [(cV (.str t_sign)), (getV 2)]), (bin2 addD (getV 1) (cV (.int 1)))])) nxS) nxS) (seqS (ifS (boolE (bin2 eqD (sliceE (getV 0) (some (getV 1)) (some (bin2 addD (getV 1) (cV (.int 3))))) (cV (.str t_dots)))) (seqS (retS (tupE [(cV (.str t_word)), (tupE [(cV (.str t_sign)), (cV (.str t_dots))]), (bin2 addD (getV 1) (cV (.int 3)))])) nxS) nxS) (seqS (ifS (boolE (bin2 eqD (getV 2) (cV (.str [34])))) (seqS (asgS (methE isStr findD (getV 0) [(cV (.str [34])), (bin2 addD (getV 1) (cV (.int 1)))]) (nameT 3)) (seqS (ifS (orT (boolE (bin2 ltS (getV 3) (cV (.int 0)))) (boolE (bin2 (inDD false) (cV (.str [10])) (sliceE (getV 0) (some (getV 1)) (some (getV 3)))))) (seqS (retS (tupE [(cV (.str t_fault)), (getV 1)])) nxS) nxS) (seqS (retS (tupE [(cV (.str t_word)), (tupE [(cV (.str t_text)), (sliceE (getV 0) (some (bin2 addD (getV 1) (cV (.int 1)))) (some (getV 3)))]), (bin2 addD (getV 3) (cV (.int 1)))])) nxS))) nxS) (seqS (ifS (boolE (bin2 (inDD false) (getV 2) (cV (.str t_mdig)))) (seqS (asgS (bin2 addD (getV 1) (bltE intD [(bin2 eqD (getV 2) (cV (.str [45])))])) (nameT 4)) (seqS (asgS (callE 3 F_l_run [(getV 0), (getV 4), (cV (.str t_dig))]) (nameT 3)) (seqS (ifS (orT (boolE (bin2 eqD (getV 3) (getV 4))) (boolE (bin2 (cmpI fun i j => decide (j < i)) (getV 3) (bin2 addD (getV 4) (cV (.int 10)))))) (seqS (retS (tupE [(cV (.str t_fault)), (getV 1)])) nxS) nxS) (seqS (asgS (bltE intD [(sliceE (getV 0) (some (getV 4)) (some (getV 3)))]) (nameT 5)) (seqS (retS (tupE [(cV (.str t_word)), (tupE [(cV (.str t_number)), (bin2 subD (getV 5) (bin2 mulSD (bin2 mulSD (cV (.int 2)) (getV 5)) (bltE intD [(bin2 eqD (getV 2) (cV (.str [45])))])))]), (getV 3)])) nxS))))) nxS) (seqS (asgS (bin2 addD (getV 1) (bltE intD [(bin2 eqD (getV 2) (cV (.str [36])))])) (nameT 4)) (seqS (asgS (callE 3 F_l_named [(getV 0), (getV 4), (getV 1)]) (nameT 6)) (seqS (ifS (orT (boolE (bin2 eqD (bin2 ixDD (getV 6) (cV (.int 0))) (cV (.str t_fault)))) (andT (boolE (bin2 eqD (getV 2) (cV (.str [36])))) (boolE (bin2 eqD (bin2 ixDD (getV 6) (cV (.int 1))) (cV (.str t_meta)))))) (seqS (retS (tupE [(cV (.str t_fault)), (getV 1)])) nxS) nxS) (seqS (retS (tupE [(cV (.str t_word)), (tupE [(bin2 ixDD (lstE [(cV (.str t_name)), (cV (.str t_variable))]) (bltE intD [(bin2 eqD (getV 2) (cV (.str [36])))])), (bin2 ixDD (getV 6) (cV (.int 1)))]), (bin2 ixDD (getV 6) (cV (.int 2)))])) nxS)))))))))
noncomputable def C_l_word_at : CC := { sc := defScope s_l_word_at, N := N_l_word_at, isDef := true, fns := [("_law_named", 3, F_l_named), ("_law_run", 3, F_l_run)], cst := [], blt := ["int"], mts := [], exs := [], cls := [], mth := M_l_word_at, mks := [], kds := [] }
theorem e_l_word_at : cSs 60 (C_l_word_at) (defBody s_l_word_at) = some (b_l_word_at) := by kernel_rfl
noncomputable def F_l_word_at : FF := runDef 7 b_l_word_at
abbrev s_l_split : Stmt := top 33
abbrev N_l_split : List Str := ["_law_text", "_law_words", "_law_at", "_law_k", "_law_found"]
abbrev P_l_split : List Str := ["_law_text"]
theorem o_l_split : defOk N_l_split P_l_split (defScope s_l_split) = true := by decide +kernel
noncomputable def M_l_split : Mtt := []
noncomputable def b_l_split : SF := (seqS (asgS (lstM []) (nameT 1)) (seqS (asgS (callE 3 F_l_run [(getV 0), (cV (.int 0)), (cV (.str t_BLA))]) (nameT 2)) (seqS (forS (rng1I (bltE lenD [(getV 0)])) (nameT 3) (seqS (ifS (boolE (bin2 ltS (getV 2) (bltE lenD [(getV 0)]))) (seqS (asgS (callE 2 F_l_word_at [(getV 0), (getV 2)]) (nameT 4)) (seqS (ifS (boolE (bin2 eqD (bin2 ixDD (getV 4) (cV (.int 0))) (cV (.str t_fault)))) (seqS (retS (tupE [(cV (.str t_fault)), (bin2 ixDD (getV 4) (cV (.int 1)))])) nxS) nxS) (seqS (exprS (methE isLst appendD (getV 1) [(bin2 addD (tupE [(getV 2)]) (bin2 ixDD (getV 4) (cV (.int 1))))])) (seqS (asgS (callE 3 F_l_run [(getV 0), (bin2 ixDD (getV 4) (cV (.int 2))), (cV (.str t_BLA))]) (nameT 2)) nxS)))) nxS) nxS)) (seqS (retS (tupE [(cV (.str t_words)), (getV 1)])) nxS))))
noncomputable def C_l_split : CC := { sc := defScope s_l_split, N := N_l_split, isDef := true, fns := [("_law_run", 3, F_l_run), ("_law_word_at", 2, F_l_word_at)], cst := [], blt := ["len", "range"], mts := ["_law_words"], exs := [], cls := [], mth := M_l_split, mks := [], kds := [] }
theorem e_l_split : cSs 60 (C_l_split) (defBody s_l_split) = some (b_l_split) := by kernel_rfl
noncomputable def F_l_split : FF := runDef 5 b_l_split
abbrev s_l_is : Stmt := top 34
abbrev N_l_is : List Str := ["_law_words", "_law_at", "_law_kind", "_law_word"]
abbrev P_l_is : List Str := ["_law_words", "_law_at", "_law_kind", "_law_word"]
theorem o_l_is : defOk N_l_is P_l_is (defScope s_l_is) = true := by decide +kernel
noncomputable def M_l_is : Mtt := []
noncomputable def b_l_is : SF := (seqS (retS (andE (bin2 ltS (getV 1) (bltE lenD [(getV 0)])) (bin2 eqD (sliceE (bin2 ixDD (getV 0) (getV 1)) (some (cV (.int 1))) none) (tupE [(getV 2), (getV 3)])))) nxS)
noncomputable def C_l_is : CC := { sc := defScope s_l_is, N := N_l_is, isDef := true, fns := [], cst := [], blt := ["len"], mts := [], exs := [], cls := [], mth := M_l_is, mks := [], kds := [] }
theorem e_l_is : cSs 60 (C_l_is) (defBody s_l_is) = some (b_l_is) := by kernel_rfl
noncomputable def F_l_is : FF := runDef 4 b_l_is
abbrev s_l_kind_at : Stmt := top 35
abbrev N_l_kind_at : List Str := ["_law_words", "_law_at", "_law_kind"]
abbrev P_l_kind_at : List Str := ["_law_words", "_law_at", "_law_kind"]
theorem o_l_kind_at : defOk N_l_kind_at P_l_kind_at (defScope s_l_kind_at) = true := by decide +kernel
noncomputable def M_l_kind_at : Mtt := []
noncomputable def b_l_kind_at : SF := (seqS (retS (andE (bin2 ltS (getV 1) (bltE lenD [(getV 0)])) (bin2 eqD (bin2 ixDD (bin2 ixDD (getV 0) (getV 1)) (cV (.int 1))) (getV 2)))) nxS)
noncomputable def C_l_kind_at : CC := { sc := defScope s_l_kind_at, N := N_l_kind_at, isDef := true, fns := [], cst := [], blt := ["len"], mts := [], exs := [], cls := [], mth := M_l_kind_at, mks := [], kds := [] }
theorem e_l_kind_at : cSs 60 (C_l_kind_at) (defBody s_l_kind_at) = some (b_l_kind_at) := by kernel_rfl
noncomputable def F_l_kind_at : FF := runDef 3 b_l_kind_at
abbrev s_l_plain_at : Stmt := top 36
abbrev N_l_plain_at : List Str := ["_law_words", "_law_at"]
abbrev P_l_plain_at : List Str := ["_law_words", "_law_at"]
theorem o_l_plain_at : defOk N_l_plain_at P_l_plain_at (defScope s_l_plain_at) = true := by decide +kernel
noncomputable def M_l_plain_at : Mtt := []
noncomputable def b_l_plain_at : SF := (seqS (retS (andE (callE 3 F_l_kind_at [(getV 0), (getV 1), (cV (.str t_name))]) (bin2 neD (bin2 ixDD (bin2 ixDD (getV 0) (getV 1)) (cV (.int 2))) (cV (.str t_meta))))) nxS)
noncomputable def C_l_plain_at : CC := { sc := defScope s_l_plain_at, N := N_l_plain_at, isDef := true, fns := [("_law_kind_at", 3, F_l_kind_at)], cst := [], blt := [], mts := [], exs := [], cls := [], mth := M_l_plain_at, mks := [], kds := [] }
theorem e_l_plain_at : cSs 60 (C_l_plain_at) (defBody s_l_plain_at) = some (b_l_plain_at) := by kernel_rfl
noncomputable def F_l_plain_at : FF := runDef 2 b_l_plain_at
abbrev s_l_constant : Stmt := top 37
abbrev N_l_constant : List Str := ["_law_words", "_law_at", "_law_table"]
abbrev P_l_constant : List Str := ["_law_words", "_law_at"]
theorem o_l_constant : defOk N_l_constant P_l_constant (defScope s_l_constant) = true := by decide +kernel
noncomputable def M_l_constant : Mtt := []
noncomputable def b_l_constant : SF := (seqS (asgS (dictE [((cV (.str t_true)), (tupE [(cV (.str t_truth)), (cV (.bl true))])), ((cV (.str t_false)), (tupE [(cV (.str t_truth)), (cV (.bl false))])), ((cV (.str t_null)), (tupE [(cV (.str t_null))]))]) (nameT 2)) (seqS (ifS (orT (truE (callE 3 F_l_kind_at [(getV 0), (getV 1), (cV (.str t_number))])) (truE (callE 3 F_l_kind_at [(getV 0), (getV 1), (cV (.str t_text))]))) (seqS (retS (tupE [(cV (.str t_ok)), (tupE [(bin2 ixDD (bin2 ixDD (getV 0) (getV 1)) (cV (.int 1))), (bin2 ixDD (bin2 ixDD (getV 0) (getV 1)) (cV (.int 2)))]), (bin2 addD (getV 1) (cV (.int 1)))])) nxS) nxS) (seqS (ifS (andT (truE (callE 3 F_l_kind_at [(getV 0), (getV 1), (cV (.str t_name))])) (boolE (bin2 (inDD false) (bin2 ixDD (bin2 ixDD (getV 0) (getV 1)) (cV (.int 2))) (getV 2)))) (seqS (retS (tupE [(cV (.str t_ok)), (bin2 ixDD (getV 2) (bin2 ixDD (bin2 ixDD (getV 0) (getV 1)) (cV (.int 2)))), (bin2 addD (getV 1) (cV (.int 1)))])) nxS) nxS) (seqS (retS (tupE [(cV (.str t_bad)), (getV 1)])) nxS))))
noncomputable def C_l_constant : CC := { sc := defScope s_l_constant, N := N_l_constant, isDef := true, fns := [("_law_kind_at", 3, F_l_kind_at)], cst := [], blt := [], mts := [], exs := [], cls := [], mth := M_l_constant, mks := [], kds := [] }
theorem e_l_constant : cSs 60 (C_l_constant) (defBody s_l_constant) = some (b_l_constant) := by kernel_rfl
noncomputable def F_l_constant : FF := runDef 3 b_l_constant
abbrev s_l_value_at : Stmt := top 38
abbrev N_l_value_at : List Str := ["_law_words", "_law_at"]
abbrev P_l_value_at : List Str := ["_law_words", "_law_at"]
theorem o_l_value_at : defOk N_l_value_at P_l_value_at (defScope s_l_value_at) = true := by decide +kernel
noncomputable def M_l_value_at : Mtt := []
noncomputable def b_l_value_at : SF := (seqS (ifS (truE (callE 3 F_l_kind_at [(getV 0), (getV 1), (cV (.str t_variable))])) (seqS (retS (tupE [(cV (.str t_ok)), (tupE [(cV (.str t_variable)), (bin2 ixDD (bin2 ixDD (getV 0) (getV 1)) (cV (.int 2)))]), (bin2 addD (getV 1) (cV (.int 1)))])) nxS) nxS) (seqS (retS (callE 2 F_l_constant [(getV 0), (getV 1)])) nxS))
noncomputable def C_l_value_at : CC := { sc := defScope s_l_value_at, N := N_l_value_at, isDef := true, fns := [("_law_constant", 2, F_l_constant), ("_law_kind_at", 3, F_l_kind_at)], cst := [], blt := [], mts := [], exs := [], cls := [], mth := M_l_value_at, mks := [], kds := [] }
theorem e_l_value_at : cSs 60 (C_l_value_at) (defBody s_l_value_at) = some (b_l_value_at) := by kernel_rfl
noncomputable def F_l_value_at : FF := runDef 2 b_l_value_at
abbrev s_l_type_at : Stmt := top 39
abbrev N_l_type_at : List Str := ["_law_words", "_law_at", "_law_depth", "_law_inner", "_law_kind"]
abbrev P_l_type_at : List Str := ["_law_words", "_law_at", "_law_depth"]
theorem o_l_type_at : defOk N_l_type_at P_l_type_at (defScope s_l_type_at) = true := by decide +kernel
noncomputable def M_l_type_at (G_l_type_at : FF) : Mtt := []
noncomputable def b_l_type_at (G_l_type_at : FF) : SF := (seqS (ifS (truE (callE 4 F_l_is [(getV 0), (getV 1), (cV (.str t_sign)), (cV (.str [91]))])) (seqS (ifS (boolE (bin2 eqD (getV 2) (cV (.int 5)))) (seqS (retS (tupE [(cV (.str t_bad)), (getV 1)])) nxS) nxS) (seqS (asgS (callE 3 G_l_type_at [(getV 0), (bin2 addD (getV 1) (cV (.int 1))), (bin2 addD (getV 2) (cV (.int 1)))]) (nameT 3)) (seqS (ifS (boolE (bin2 eqD (bin2 ixDD (getV 3) (cV (.int 0))) (cV (.str t_bad)))) (seqS (retS (getV 3)) nxS) nxS) (seqS (ifS (notT (truE (callE 4 F_l_is [(getV 0), (bin2 ixDD (getV 3) (cV (.int 2))), (cV (.str t_sign)), (cV (.str [93]))]))) (seqS (retS (tupE [(cV (.str t_bad)), (bin2 ixDD (getV 3) (cV (.int 2)))])) nxS) nxS) (seqS (asgS (tupE [(cV (.str t_list)), (bin2 ixDD (getV 3) (cV (.int 1)))]) (nameT 4)) (seqS (asgS (bin2 addD (bin2 ixDD (getV 3) (cV (.int 2))) (cV (.int 1))) (nameT 1)) nxS)))))) (seqS (ifS (truE (callE 2 F_l_plain_at [(getV 0), (getV 1)])) (seqS (asgS (tupE [(cV (.str t_name)), (bin2 ixDD (bin2 ixDD (getV 0) (getV 1)) (cV (.int 2)))]) (nameT 4)) (seqS (asgS (bin2 addD (getV 1) (cV (.int 1))) (nameT 1)) nxS)) (seqS (retS (tupE [(cV (.str t_bad)), (getV 1)])) nxS)) nxS)) (seqS (ifS (truE (callE 4 F_l_is [(getV 0), (getV 1), (cV (.str t_sign)), (cV (.str [33]))])) (seqS (retS (tupE [(cV (.str t_ok)), (tupE [(cV (.str t_must)), (getV 4)]), (bin2 addD (getV 1) (cV (.int 1)))])) nxS) nxS) (seqS (retS (tupE [(cV (.str t_ok)), (getV 4), (getV 1)])) nxS)))
noncomputable def C_l_type_at (G_l_type_at : FF) : CC := { sc := defScope s_l_type_at, N := N_l_type_at, isDef := true, fns := [("_law_is", 4, F_l_is), ("_law_plain_at", 2, F_l_plain_at), ("_law_type_at", 3, G_l_type_at)], cst := [], blt := [], mts := [], exs := [], cls := [], mth := M_l_type_at G_l_type_at, mks := [], kds := [] }
theorem e_l_type_at (G_l_type_at : FF) : cSs 60 (C_l_type_at G_l_type_at) (defBody s_l_type_at) = some (b_l_type_at G_l_type_at) := by kernel_rfl
noncomputable def W_l_type_at : Nat → Nat → FF
  | 0, _ => fun _ _ => .stuck
  | n + 1, i => match i with
    | 0 => runDef 5 (b_l_type_at (W_l_type_at n 0))
    | _ => fun _ _ => .stuck
noncomputable abbrev F_l_type_at : FF := W_l_type_at 60 0
abbrev s_l_declared : Stmt := top 40
abbrev N_l_declared : List Str := ["_law_words", "_law_at", "_law_found", "_law_k", "_law_kind", "_law_default"]
abbrev P_l_declared : List Str := ["_law_words", "_law_at"]
theorem o_l_declared : defOk N_l_declared P_l_declared (defScope s_l_declared) = true := by decide +kernel
noncomputable def M_l_declared : Mtt := []
noncomputable def lb_l_declared_1 : SF := (seqS (ifS (andT (truE (getV 2)) (truE (callE 4 F_l_is [(getV 0), (getV 1), (cV (.str t_sign)), (cV (.str [41]))]))) (seqS (retS (tupE [(cV (.str t_ok)), (bltE tupleD [(getV 2)]), (bin2 addD (getV 1) (cV (.int 1)))])) nxS) nxS) (seqS (ifS (notT (truE (callE 3 F_l_kind_at [(getV 0), (getV 1), (cV (.str t_variable))]))) (seqS (retS (tupE [(cV (.str t_bad)), (getV 1)])) nxS) nxS) (seqS (ifS (notT (truE (callE 4 F_l_is [(getV 0), (bin2 addD (getV 1) (cV (.int 1))), (cV (.str t_sign)), (cV (.str [58]))]))) (seqS (retS (tupE [(cV (.str t_bad)), (bin2 addD (getV 1) (cV (.int 1)))])) nxS) nxS) (seqS (asgS (callE 3 F_l_type_at [(getV 0), (bin2 addD (getV 1) (cV (.int 2))), (cV (.int 0))]) (nameT 4)) (seqS (ifS (boolE (bin2 eqD (bin2 ixDD (getV 4) (cV (.int 0))) (cV (.str t_bad)))) (seqS (retS (getV 4)) nxS) nxS) (seqS (asgS (tupE [(cV (.str t_ok)), (cV .non), (bin2 ixDD (getV 4) (cV (.int 2)))]) (nameT 5)) (seqS (ifS (truE (callE 4 F_l_is [(getV 0), (bin2 ixDD (getV 4) (cV (.int 2))), (cV (.str t_sign)), (cV (.str [61]))])) (seqS (asgS (callE 2 F_l_constant [(getV 0), (bin2 addD (bin2 ixDD (getV 4) (cV (.int 2))) (cV (.int 1)))]) (nameT 5)) (seqS (ifS (boolE (bin2 eqD (bin2 ixDD (getV 5) (cV (.int 0))) (cV (.str t_bad)))) (seqS (retS (getV 5)) nxS) nxS) nxS)) nxS) (seqS (exprS (methE isLst appendD (getV 2) [(tupE [(bin2 ixDD (bin2 ixDD (getV 0) (getV 1)) (cV (.int 2))), (bin2 ixDD (getV 4) (cV (.int 1))), (bin2 ixDD (getV 5) (cV (.int 1)))])])) (seqS (asgS (bin2 ixDD (getV 5) (cV (.int 2))) (nameT 1)) nxS)))))))))
noncomputable def b_l_declared : SF := (seqS (ifS (notT (truE (callE 4 F_l_is [(getV 0), (getV 1), (cV (.str t_sign)), (cV (.str [40]))]))) (seqS (retS (tupE [(cV (.str t_ok)), (tupE []), (getV 1)])) nxS) nxS) (seqS (asgS (lstM []) (nameT 2)) (seqS (asgS (bin2 addD (getV 1) (cV (.int 1))) (nameT 1)) (seqS (forS (rng1I (bltE lenD [(getV 0)])) (nameT 3) lb_l_declared_1) (seqS (retS (tupE [(cV (.str t_bad)), (getV 1)])) nxS)))))
noncomputable def C_l_declared : CC := { sc := defScope s_l_declared, N := N_l_declared, isDef := true, fns := [("_law_constant", 2, F_l_constant), ("_law_is", 4, F_l_is), ("_law_kind_at", 3, F_l_kind_at), ("_law_type_at", 3, F_l_type_at)], cst := [], blt := ["len", "range", "tuple"], mts := ["_law_found"], exs := [], cls := [], mth := M_l_declared, mks := [], kds := [] }
theorem e_l_declared : cSs 60 (C_l_declared) (defBody s_l_declared) = some (b_l_declared) := by kernel_rfl
noncomputable def F_l_declared : FF := runDef 6 b_l_declared
abbrev s_l_conditions_at : Stmt := top 41
abbrev N_l_conditions_at : List Str := ["_law_words", "_law_at", "_law_found", "_law_k", "_law_value"]
abbrev P_l_conditions_at : List Str := ["_law_words", "_law_at"]
theorem o_l_conditions_at : defOk N_l_conditions_at P_l_conditions_at (defScope s_l_conditions_at) = true := by decide +kernel
noncomputable def M_l_conditions_at : Mtt := []
noncomputable def lb_l_conditions_at_1 : SF := (seqS (ifS (notT (truE (callE 4 F_l_is [(getV 0), (getV 1), (cV (.str t_sign)), (cV (.str [64]))]))) (seqS (retS (tupE [(cV (.str t_ok)), (bltE tupleD [(getV 2)]), (getV 1)])) nxS) nxS) (seqS (ifS (andT (notT (truE (callE 4 F_l_is [(getV 0), (bin2 addD (getV 1) (cV (.int 1))), (cV (.str t_name)), (cV (.str t_if))]))) (notT (truE (callE 4 F_l_is [(getV 0), (bin2 addD (getV 1) (cV (.int 1))), (cV (.str t_name)), (cV (.str t_unless))])))) (seqS (retS (tupE [(cV (.str t_bad)), (bin2 addD (getV 1) (cV (.int 1)))])) nxS) nxS) (seqS (ifS (notT (truE (callE 4 F_l_is [(getV 0), (bin2 addD (getV 1) (cV (.int 2))), (cV (.str t_sign)), (cV (.str [40]))]))) (seqS (retS (tupE [(cV (.str t_bad)), (bin2 addD (getV 1) (cV (.int 2)))])) nxS) nxS) (seqS (asgS (callE 2 F_l_value_at [(getV 0), (bin2 addD (getV 1) (cV (.int 3)))]) (nameT 4)) (seqS (ifS (boolE (bin2 eqD (bin2 ixDD (getV 4) (cV (.int 0))) (cV (.str t_bad)))) (seqS (retS (getV 4)) nxS) nxS) (seqS (ifS (notT (truE (callE 4 F_l_is [(getV 0), (bin2 ixDD (getV 4) (cV (.int 2))), (cV (.str t_sign)), (cV (.str [41]))]))) (seqS (retS (tupE [(cV (.str t_bad)), (bin2 ixDD (getV 4) (cV (.int 2)))])) nxS) nxS) (seqS (exprS (methE isLst appendD (getV 2) [(tupE [(bin2 ixDD (bin2 ixDD (getV 0) (bin2 addD (getV 1) (cV (.int 1)))) (cV (.int 2))), (bin2 ixDD (getV 4) (cV (.int 1)))])])) (seqS (asgS (bin2 addD (bin2 ixDD (getV 4) (cV (.int 2))) (cV (.int 1))) (nameT 1)) nxS))))))))
noncomputable def b_l_conditions_at : SF := (seqS (asgS (lstM []) (nameT 2)) (seqS (forS (rng1I (bin2 addD (bltE lenD [(getV 0)]) (cV (.int 1)))) (nameT 3) lb_l_conditions_at_1) (seqS (retS (tupE [(cV (.str t_bad)), (getV 1)])) nxS)))
noncomputable def C_l_conditions_at : CC := { sc := defScope s_l_conditions_at, N := N_l_conditions_at, isDef := true, fns := [("_law_is", 4, F_l_is), ("_law_value_at", 2, F_l_value_at)], cst := [], blt := ["len", "range", "tuple"], mts := ["_law_found"], exs := [], cls := [], mth := M_l_conditions_at, mks := [], kds := [] }
theorem e_l_conditions_at : cSs 60 (C_l_conditions_at) (defBody s_l_conditions_at) = some (b_l_conditions_at) := by kernel_rfl
noncomputable def F_l_conditions_at : FF := runDef 5 b_l_conditions_at
abbrev s_l_arguments_at : Stmt := top 42
abbrev N_l_arguments_at : List Str := ["_law_words", "_law_at", "_law_found", "_law_k", "_law_value"]
abbrev P_l_arguments_at : List Str := ["_law_words", "_law_at"]
theorem o_l_arguments_at : defOk N_l_arguments_at P_l_arguments_at (defScope s_l_arguments_at) = true := by decide +kernel
noncomputable def M_l_arguments_at : Mtt := []
noncomputable def lb_l_arguments_at_1 : SF := (seqS (ifS (andT (truE (getV 2)) (truE (callE 4 F_l_is [(getV 0), (getV 1), (cV (.str t_sign)), (cV (.str [41]))]))) (seqS (retS (tupE [(cV (.str t_ok)), (bltE tupleD [(getV 2)]), (bin2 addD (getV 1) (cV (.int 1)))])) nxS) nxS) (seqS (ifS (notT (truE (callE 2 F_l_plain_at [(getV 0), (getV 1)]))) (seqS (retS (tupE [(cV (.str t_bad)), (getV 1)])) nxS) nxS) (seqS (ifS (notT (truE (callE 4 F_l_is [(getV 0), (bin2 addD (getV 1) (cV (.int 1))), (cV (.str t_sign)), (cV (.str [58]))]))) (seqS (retS (tupE [(cV (.str t_bad)), (bin2 addD (getV 1) (cV (.int 1)))])) nxS) nxS) (seqS (asgS (callE 2 F_l_value_at [(getV 0), (bin2 addD (getV 1) (cV (.int 2)))]) (nameT 4)) (seqS (ifS (boolE (bin2 eqD (bin2 ixDD (getV 4) (cV (.int 0))) (cV (.str t_bad)))) (seqS (retS (getV 4)) nxS) nxS) (seqS (exprS (methE isLst appendD (getV 2) [(tupE [(bin2 ixDD (bin2 ixDD (getV 0) (getV 1)) (cV (.int 2))), (bin2 ixDD (getV 4) (cV (.int 1)))])])) (seqS (asgS (bin2 ixDD (getV 4) (cV (.int 2))) (nameT 1)) nxS)))))))
noncomputable def b_l_arguments_at : SF := (seqS (ifS (notT (truE (callE 4 F_l_is [(getV 0), (getV 1), (cV (.str t_sign)), (cV (.str [40]))]))) (seqS (retS (tupE [(cV (.str t_ok)), (tupE []), (getV 1)])) nxS) nxS) (seqS (asgS (lstM []) (nameT 2)) (seqS (asgS (bin2 addD (getV 1) (cV (.int 1))) (nameT 1)) (seqS (forS (rng1I (bltE lenD [(getV 0)])) (nameT 3) lb_l_arguments_at_1) (seqS (retS (tupE [(cV (.str t_bad)), (getV 1)])) nxS)))))
noncomputable def C_l_arguments_at : CC := { sc := defScope s_l_arguments_at, N := N_l_arguments_at, isDef := true, fns := [("_law_is", 4, F_l_is), ("_law_plain_at", 2, F_l_plain_at), ("_law_value_at", 2, F_l_value_at)], cst := [], blt := ["len", "range", "tuple"], mts := ["_law_found"], exs := [], cls := [], mth := M_l_arguments_at, mks := [], kds := [] }
theorem e_l_arguments_at : cSs 60 (C_l_arguments_at) (defBody s_l_arguments_at) = some (b_l_arguments_at) := by kernel_rfl
noncomputable def F_l_arguments_at : FF := runDef 5 b_l_arguments_at
abbrev s_l_field_at : Stmt := top 43
abbrev N_l_field_at : List Str := ["_law_words", "_law_at", "_law_depth", "_law_key", "_law_name", "_law_arguments", "_law_conditions", "_law_inner"]
abbrev P_l_field_at : List Str := ["_law_words", "_law_at", "_law_depth"]
theorem o_l_field_at : defOk N_l_field_at P_l_field_at (defScope s_l_field_at) = true := by decide +kernel
noncomputable def M_l_field_at (G_l_field_at : FF) (G_l_selection_at : FF) (G_l_spread_at : FF) : Mtt := []
noncomputable def sb_l_field_at_1 (G_l_field_at : FF) (G_l_selection_at : FF) (G_l_spread_at : FF) : SF := (ifS (notT (truE (callE 3 F_l_kind_at [(getV 0), (getV 1), (cV (.str t_name))]))) (seqS (retS (tupE [(cV (.str t_bad)), (getV 1)])) nxS) nxS)
noncomputable def sb_l_field_at_2 (G_l_field_at : FF) (G_l_selection_at : FF) (G_l_spread_at : FF) : SF := (asgS (bin2 ixDD (bin2 ixDD (getV 0) (getV 1)) (cV (.int 2))) (nameT 3))
noncomputable def sb_l_field_at_3 (G_l_field_at : FF) (G_l_selection_at : FF) (G_l_spread_at : FF) : SF := (asgS (getV 3) (nameT 4))
noncomputable def sb_l_field_at_4 (G_l_field_at : FF) (G_l_selection_at : FF) (G_l_spread_at : FF) : SF := (asgS (bin2 addD (getV 1) (cV (.int 1))) (nameT 1))
noncomputable def sb_l_field_at_5 (G_l_field_at : FF) (G_l_selection_at : FF) (G_l_spread_at : FF) : SF := (ifS (truE (callE 4 F_l_is [(getV 0), (getV 1), (cV (.str t_sign)), (cV (.str [58]))])) (seqS (ifS (boolE (bin2 eqD (getV 3) (cV (.str t_meta)))) (seqS (retS (tupE [(cV (.str t_bad)), (getV 1)])) nxS) nxS) (seqS (ifS (notT (truE (callE 3 F_l_kind_at [(getV 0), (bin2 addD (getV 1) (cV (.int 1))), (cV (.str t_name))]))) (seqS (retS (tupE [(cV (.str t_bad)), (bin2 addD (getV 1) (cV (.int 1)))])) nxS) nxS) (seqS (asgS (bin2 ixDD (bin2 ixDD (getV 0) (bin2 addD (getV 1) (cV (.int 1)))) (cV (.int 2))) (nameT 4)) (seqS (asgS (bin2 addD (getV 1) (cV (.int 2))) (nameT 1)) nxS)))) nxS)
noncomputable def sb_l_field_at_6 (G_l_field_at : FF) (G_l_selection_at : FF) (G_l_spread_at : FF) : SF := (asgS (callE 2 F_l_arguments_at [(getV 0), (getV 1)]) (nameT 5))
noncomputable def sb_l_field_at_7 (G_l_field_at : FF) (G_l_selection_at : FF) (G_l_spread_at : FF) : SF := (ifS (boolE (bin2 eqD (bin2 ixDD (getV 5) (cV (.int 0))) (cV (.str t_bad)))) (seqS (retS (getV 5)) nxS) nxS)
noncomputable def sb_l_field_at_8 (G_l_field_at : FF) (G_l_selection_at : FF) (G_l_spread_at : FF) : SF := (asgS (callE 2 F_l_conditions_at [(getV 0), (bin2 ixDD (getV 5) (cV (.int 2)))]) (nameT 6))
noncomputable def sb_l_field_at_9 (G_l_field_at : FF) (G_l_selection_at : FF) (G_l_spread_at : FF) : SF := (ifS (boolE (bin2 eqD (bin2 ixDD (getV 6) (cV (.int 0))) (cV (.str t_bad)))) (seqS (retS (getV 6)) nxS) nxS)
noncomputable def sb_l_field_at_10 (G_l_field_at : FF) (G_l_selection_at : FF) (G_l_spread_at : FF) : SF := (asgS (tupE [(cV (.str t_ok)), (cV .non), (bin2 ixDD (getV 6) (cV (.int 2)))]) (nameT 7))
noncomputable def sb_l_field_at_11 (G_l_field_at : FF) (G_l_selection_at : FF) (G_l_spread_at : FF) : SF := (ifS (truE (callE 4 F_l_is [(getV 0), (bin2 ixDD (getV 6) (cV (.int 2))), (cV (.str t_sign)), (cV (.str [123]))])) (seqS (asgS (callE 3 G_l_selection_at [(getV 0), (bin2 ixDD (getV 6) (cV (.int 2))), (bin2 addD (getV 2) (cV (.int 1)))]) (nameT 7)) (seqS (ifS (boolE (bin2 eqD (bin2 ixDD (getV 7) (cV (.int 0))) (cV (.str t_bad)))) (seqS (retS (getV 7)) nxS) nxS) nxS)) nxS)
noncomputable def sb_l_field_at_12 (G_l_field_at : FF) (G_l_selection_at : FF) (G_l_spread_at : FF) : SF := (retS (tupE [(cV (.str t_ok)), (tupE [(cV (.str t_field)), (getV 3), (getV 4), (bin2 ixDD (getV 5) (cV (.int 1))), (bin2 ixDD (getV 6) (cV (.int 1))), (bin2 ixDD (getV 7) (cV (.int 1)))]), (bin2 ixDD (getV 7) (cV (.int 2)))]))
noncomputable def b_l_field_at (G_l_field_at : FF) (G_l_selection_at : FF) (G_l_spread_at : FF) : SF := (seqS (sb_l_field_at_1 G_l_field_at G_l_selection_at G_l_spread_at) (seqS (sb_l_field_at_2 G_l_field_at G_l_selection_at G_l_spread_at) (seqS (sb_l_field_at_3 G_l_field_at G_l_selection_at G_l_spread_at) (seqS (sb_l_field_at_4 G_l_field_at G_l_selection_at G_l_spread_at) (seqS (sb_l_field_at_5 G_l_field_at G_l_selection_at G_l_spread_at) (seqS (sb_l_field_at_6 G_l_field_at G_l_selection_at G_l_spread_at) (seqS (sb_l_field_at_7 G_l_field_at G_l_selection_at G_l_spread_at) (seqS (sb_l_field_at_8 G_l_field_at G_l_selection_at G_l_spread_at) (seqS (sb_l_field_at_9 G_l_field_at G_l_selection_at G_l_spread_at) (seqS (sb_l_field_at_10 G_l_field_at G_l_selection_at G_l_spread_at) (seqS (sb_l_field_at_11 G_l_field_at G_l_selection_at G_l_spread_at) (seqS (sb_l_field_at_12 G_l_field_at G_l_selection_at G_l_spread_at) nxS))))))))))))
noncomputable def C_l_field_at (G_l_field_at : FF) (G_l_selection_at : FF) (G_l_spread_at : FF) : CC := { sc := defScope s_l_field_at, N := N_l_field_at, isDef := true, fns := [("_law_arguments_at", 2, F_l_arguments_at), ("_law_conditions_at", 2, F_l_conditions_at), ("_law_is", 4, F_l_is), ("_law_kind_at", 3, F_l_kind_at), ("_law_selection_at", 3, G_l_selection_at)], cst := [], blt := [], mts := [], exs := [], cls := [], mth := M_l_field_at G_l_field_at G_l_selection_at G_l_spread_at, mks := [], kds := [] }
theorem e_l_field_at (G_l_field_at : FF) (G_l_selection_at : FF) (G_l_spread_at : FF) : cSs 60 (C_l_field_at G_l_field_at G_l_selection_at G_l_spread_at) (defBody s_l_field_at) = some (b_l_field_at G_l_field_at G_l_selection_at G_l_spread_at) := by kernel_rfl
abbrev s_l_selection_at : Stmt := top 45
abbrev N_l_selection_at : List Str := ["_law_words", "_law_at", "_law_depth", "_law_parts", "_law_k", "_law_part"]
abbrev P_l_selection_at : List Str := ["_law_words", "_law_at", "_law_depth"]
theorem o_l_selection_at : defOk N_l_selection_at P_l_selection_at (defScope s_l_selection_at) = true := by decide +kernel
noncomputable def M_l_selection_at (G_l_field_at : FF) (G_l_selection_at : FF) (G_l_spread_at : FF) : Mtt := []
noncomputable def lb_l_selection_at_1 (G_l_field_at : FF) (G_l_selection_at : FF) (G_l_spread_at : FF) : SF := (seqS (ifS (andT (truE (getV 3)) (truE (callE 4 F_l_is [(getV 0), (getV 1), (cV (.str t_sign)), (cV (.str [125]))]))) (seqS (retS (tupE [(cV (.str t_ok)), (bltE tupleD [(getV 3)]), (bin2 addD (getV 1) (cV (.int 1)))])) nxS) nxS) (seqS (ifS (truE (callE 4 F_l_is [(getV 0), (getV 1), (cV (.str t_sign)), (cV (.str t_dots))])) (seqS (asgS (callE 3 G_l_spread_at [(getV 0), (bin2 addD (getV 1) (cV (.int 1))), (getV 2)]) (nameT 5)) nxS) (seqS (asgS (callE 3 G_l_field_at [(getV 0), (getV 1), (getV 2)]) (nameT 5)) nxS)) (seqS (ifS (boolE (bin2 eqD (bin2 ixDD (getV 5) (cV (.int 0))) (cV (.str t_bad)))) (seqS (retS (getV 5)) nxS) nxS) (seqS (exprS (methE isLst appendD (getV 3) [(bin2 ixDD (getV 5) (cV (.int 1)))])) (seqS (asgS (bin2 ixDD (getV 5) (cV (.int 2))) (nameT 1)) nxS)))))
noncomputable def b_l_selection_at (G_l_field_at : FF) (G_l_selection_at : FF) (G_l_spread_at : FF) : SF := (seqS (ifS (orT (notT (truE (callE 4 F_l_is [(getV 0), (getV 1), (cV (.str t_sign)), (cV (.str [123]))]))) (boolE (bin2 (cmpI fun i j => decide (j < i)) (getV 2) (cV (.int 10))))) (seqS (retS (tupE [(cV (.str t_bad)), (getV 1)])) nxS) nxS) (seqS (asgS (bin2 addD (getV 1) (cV (.int 1))) (nameT 1)) (seqS (asgS (lstM []) (nameT 3)) (seqS (forS (rng1I (bltE lenD [(getV 0)])) (nameT 4) (lb_l_selection_at_1 G_l_field_at G_l_selection_at G_l_spread_at)) (seqS (retS (tupE [(cV (.str t_bad)), (getV 1)])) nxS)))))
noncomputable def C_l_selection_at (G_l_field_at : FF) (G_l_selection_at : FF) (G_l_spread_at : FF) : CC := { sc := defScope s_l_selection_at, N := N_l_selection_at, isDef := true, fns := [("_law_field_at", 3, G_l_field_at), ("_law_is", 4, F_l_is), ("_law_spread_at", 3, G_l_spread_at)], cst := [], blt := ["len", "range", "tuple"], mts := ["_law_parts"], exs := [], cls := [], mth := M_l_selection_at G_l_field_at G_l_selection_at G_l_spread_at, mks := [], kds := [] }
theorem e_l_selection_at (G_l_field_at : FF) (G_l_selection_at : FF) (G_l_spread_at : FF) : cSs 60 (C_l_selection_at G_l_field_at G_l_selection_at G_l_spread_at) (defBody s_l_selection_at) = some (b_l_selection_at G_l_field_at G_l_selection_at G_l_spread_at) := by kernel_rfl
abbrev s_l_spread_at : Stmt := top 44
abbrev N_l_spread_at : List Str := ["_law_words", "_law_at", "_law_depth", "_law_name", "_law_conditions", "_law_inner"]
abbrev P_l_spread_at : List Str := ["_law_words", "_law_at", "_law_depth"]
theorem o_l_spread_at : defOk N_l_spread_at P_l_spread_at (defScope s_l_spread_at) = true := by decide +kernel
noncomputable def M_l_spread_at (G_l_field_at : FF) (G_l_selection_at : FF) (G_l_spread_at : FF) : Mtt := []
noncomputable def sb_l_spread_at_1 (G_l_field_at : FF) (G_l_selection_at : FF) (G_l_spread_at : FF) : SF := (asgS (cV .non) (nameT 3))
noncomputable def sb_l_spread_at_2 (G_l_field_at : FF) (G_l_selection_at : FF) (G_l_spread_at : FF) : SF := (ifS (truE (callE 4 F_l_is [(getV 0), (getV 1), (cV (.str t_name)), (cV (.str t_on))])) (seqS (ifS (notT (truE (callE 2 F_l_plain_at [(getV 0), (bin2 addD (getV 1) (cV (.int 1)))]))) (seqS (retS (tupE [(cV (.str t_bad)), (bin2 addD (getV 1) (cV (.int 1)))])) nxS) nxS) (seqS (asgS (bin2 ixDD (bin2 ixDD (getV 0) (bin2 addD (getV 1) (cV (.int 1)))) (cV (.int 2))) (nameT 3)) (seqS (asgS (bin2 addD (getV 1) (cV (.int 2))) (nameT 1)) nxS))) (seqS (ifS (truE (callE 3 F_l_kind_at [(getV 0), (getV 1), (cV (.str t_name))])) (seqS (ifS (notT (truE (callE 2 F_l_plain_at [(getV 0), (getV 1)]))) (seqS (retS (tupE [(cV (.str t_bad)), (getV 1)])) nxS) nxS) (seqS (asgS (callE 2 F_l_conditions_at [(getV 0), (bin2 addD (getV 1) (cV (.int 1)))]) (nameT 4)) (seqS (ifS (boolE (bin2 eqD (bin2 ixDD (getV 4) (cV (.int 0))) (cV (.str t_bad)))) (seqS (retS (getV 4)) nxS) nxS) (seqS (retS (tupE [(cV (.str t_ok)), (tupE [(cV (.str t_spread)), (bin2 ixDD (bin2 ixDD (getV 0) (getV 1)) (cV (.int 2))), (bin2 ixDD (getV 4) (cV (.int 1)))]), (bin2 ixDD (getV 4) (cV (.int 2)))])) nxS)))) nxS) nxS))
noncomputable def sb_l_spread_at_3 (G_l_field_at : FF) (G_l_selection_at : FF) (G_l_spread_at : FF) : SF := (asgS (callE 2 F_l_conditions_at [(getV 0), (getV 1)]) (nameT 4))
noncomputable def sb_l_spread_at_4 (G_l_field_at : FF) (G_l_selection_at : FF) (G_l_spread_at : FF) : SF := (ifS (boolE (bin2 eqD (bin2 ixDD (getV 4) (cV (.int 0))) (cV (.str t_bad)))) (seqS (retS (getV 4)) nxS) nxS)
noncomputable def sb_l_spread_at_5 (G_l_field_at : FF) (G_l_selection_at : FF) (G_l_spread_at : FF) : SF := (asgS (callE 3 G_l_selection_at [(getV 0), (bin2 ixDD (getV 4) (cV (.int 2))), (bin2 addD (getV 2) (cV (.int 1)))]) (nameT 5))
noncomputable def sb_l_spread_at_6 (G_l_field_at : FF) (G_l_selection_at : FF) (G_l_spread_at : FF) : SF := (ifS (boolE (bin2 eqD (bin2 ixDD (getV 5) (cV (.int 0))) (cV (.str t_bad)))) (seqS (retS (getV 5)) nxS) nxS)
noncomputable def sb_l_spread_at_7 (G_l_field_at : FF) (G_l_selection_at : FF) (G_l_spread_at : FF) : SF := (retS (tupE [(cV (.str t_ok)), (tupE [(cV (.str t_on)), (getV 3), (bin2 ixDD (getV 4) (cV (.int 1))), (bin2 ixDD (getV 5) (cV (.int 1)))]), (bin2 ixDD (getV 5) (cV (.int 2)))]))
noncomputable def b_l_spread_at (G_l_field_at : FF) (G_l_selection_at : FF) (G_l_spread_at : FF) : SF := (seqS (sb_l_spread_at_1 G_l_field_at G_l_selection_at G_l_spread_at) (seqS (sb_l_spread_at_2 G_l_field_at G_l_selection_at G_l_spread_at) (seqS (sb_l_spread_at_3 G_l_field_at G_l_selection_at G_l_spread_at) (seqS (sb_l_spread_at_4 G_l_field_at G_l_selection_at G_l_spread_at) (seqS (sb_l_spread_at_5 G_l_field_at G_l_selection_at G_l_spread_at) (seqS (sb_l_spread_at_6 G_l_field_at G_l_selection_at G_l_spread_at) (seqS (sb_l_spread_at_7 G_l_field_at G_l_selection_at G_l_spread_at) nxS)))))))
noncomputable def C_l_spread_at (G_l_field_at : FF) (G_l_selection_at : FF) (G_l_spread_at : FF) : CC := { sc := defScope s_l_spread_at, N := N_l_spread_at, isDef := true, fns := [("_law_conditions_at", 2, F_l_conditions_at), ("_law_is", 4, F_l_is), ("_law_kind_at", 3, F_l_kind_at), ("_law_plain_at", 2, F_l_plain_at), ("_law_selection_at", 3, G_l_selection_at)], cst := [], blt := [], mts := [], exs := [], cls := [], mth := M_l_spread_at G_l_field_at G_l_selection_at G_l_spread_at, mks := [], kds := [] }
theorem e_l_spread_at (G_l_field_at : FF) (G_l_selection_at : FF) (G_l_spread_at : FF) : cSs 60 (C_l_spread_at G_l_field_at G_l_selection_at G_l_spread_at) (defBody s_l_spread_at) = some (b_l_spread_at G_l_field_at G_l_selection_at G_l_spread_at) := by kernel_rfl
noncomputable def W_l_field_at : Nat → Nat → FF
  | 0, _ => fun _ _ => .stuck
  | n + 1, i => match i with
    | 0 => runDef 8 (b_l_field_at (W_l_field_at n 0) (W_l_field_at n 1) (W_l_field_at n 2))
    | 1 => runDef 6 (b_l_selection_at (W_l_field_at n 0) (W_l_field_at n 1) (W_l_field_at n 2))
    | 2 => runDef 6 (b_l_spread_at (W_l_field_at n 0) (W_l_field_at n 1) (W_l_field_at n 2))
    | _ => fun _ _ => .stuck
noncomputable abbrev F_l_field_at : FF := W_l_field_at 60 0
noncomputable abbrev F_l_selection_at : FF := W_l_field_at 60 1
noncomputable abbrev F_l_spread_at : FF := W_l_field_at 60 2
abbrev s_l_fragment_at : Stmt := top 46
abbrev N_l_fragment_at : List Str := ["_law_words", "_law_at", "_law_count", "_law_inner"]
abbrev P_l_fragment_at : List Str := ["_law_words", "_law_at", "_law_count"]
theorem o_l_fragment_at : defOk N_l_fragment_at P_l_fragment_at (defScope s_l_fragment_at) = true := by decide +kernel
noncomputable def M_l_fragment_at : Mtt := []
noncomputable def b_l_fragment_at : SF := (seqS (ifS (orT (notT (truE (callE 4 F_l_is [(getV 0), (getV 1), (cV (.str t_name)), (cV (.str t_fragment))]))) (boolE (bin2 eqD (getV 2) (cV (.int 10))))) (seqS (retS (tupE [(cV (.str t_bad)), (getV 1)])) nxS) nxS) (seqS (ifS (orT (notT (truE (callE 2 F_l_plain_at [(getV 0), (bin2 addD (getV 1) (cV (.int 1)))]))) (boolE (bin2 eqD (bin2 ixDD (bin2 ixDD (getV 0) (bin2 addD (getV 1) (cV (.int 1)))) (cV (.int 2))) (cV (.str t_on))))) (seqS (retS (tupE [(cV (.str t_bad)), (bin2 addD (getV 1) (cV (.int 1)))])) nxS) nxS) (seqS (ifS (notT (truE (callE 4 F_l_is [(getV 0), (bin2 addD (getV 1) (cV (.int 2))), (cV (.str t_name)), (cV (.str t_on))]))) (seqS (retS (tupE [(cV (.str t_bad)), (bin2 addD (getV 1) (cV (.int 2)))])) nxS) nxS) (seqS (ifS (notT (truE (callE 2 F_l_plain_at [(getV 0), (bin2 addD (getV 1) (cV (.int 3)))]))) (seqS (retS (tupE [(cV (.str t_bad)), (bin2 addD (getV 1) (cV (.int 3)))])) nxS) nxS) (seqS (asgS (callE 3 F_l_selection_at [(getV 0), (bin2 addD (getV 1) (cV (.int 4))), (cV (.int 1))]) (nameT 3)) (seqS (ifS (boolE (bin2 eqD (bin2 ixDD (getV 3) (cV (.int 0))) (cV (.str t_bad)))) (seqS (retS (getV 3)) nxS) nxS) (seqS (retS (tupE [(cV (.str t_ok)), (tupE [(bin2 ixDD (bin2 ixDD (getV 0) (bin2 addD (getV 1) (cV (.int 1)))) (cV (.int 2))), (bin2 ixDD (bin2 ixDD (getV 0) (bin2 addD (getV 1) (cV (.int 3)))) (cV (.int 2))), (bin2 ixDD (getV 3) (cV (.int 1)))]), (bin2 ixDD (getV 3) (cV (.int 2)))])) nxS)))))))
noncomputable def C_l_fragment_at : CC := { sc := defScope s_l_fragment_at, N := N_l_fragment_at, isDef := true, fns := [("_law_is", 4, F_l_is), ("_law_plain_at", 2, F_l_plain_at), ("_law_selection_at", 3, F_l_selection_at)], cst := [], blt := [], mts := [], exs := [], cls := [], mth := M_l_fragment_at, mks := [], kds := [] }
theorem e_l_fragment_at : cSs 60 (C_l_fragment_at) (defBody s_l_fragment_at) = some (b_l_fragment_at) := by kernel_rfl
noncomputable def F_l_fragment_at : FF := runDef 4 b_l_fragment_at
abbrev s_l_document_at : Stmt := top 47
abbrev N_l_document_at : List Str := ["_law_words", "_law_declared_here", "_law_selection", "_law_fragments", "_law_at", "_law_k", "_law_found"]
abbrev P_l_document_at : List Str := ["_law_words"]
theorem o_l_document_at : defOk N_l_document_at P_l_document_at (defScope s_l_document_at) = true := by decide +kernel
noncomputable def M_l_document_at : Mtt := []
noncomputable def lb_l_document_at_1 : SF := (seqS (ifS (boolE (bin2 ltS (getV 4) (bltE lenD [(getV 0)]))) (seqS (asgS (callE 3 F_l_fragment_at [(getV 0), (getV 4), (bltE lenD [(getV 3)])]) (nameT 6)) (seqS (ifS (boolE (bin2 eqD (bin2 ixDD (getV 6) (cV (.int 0))) (cV (.str t_bad)))) (seqS (retS (getV 6)) nxS) nxS) (seqS (exprS (methE isLst appendD (getV 3) [(bin2 ixDD (getV 6) (cV (.int 1)))])) (seqS (asgS (bin2 ixDD (getV 6) (cV (.int 2))) (nameT 4)) nxS)))) nxS) nxS)
noncomputable def sb_l_document_at_1 : SF := (ifS (notT (truE (callE 4 F_l_is [(getV 0), (cV (.int 0)), (cV (.str t_name)), (cV (.str t_query))]))) (seqS (retS (tupE [(cV (.str t_bad)), (cV (.int 0))])) nxS) nxS)
noncomputable def sb_l_document_at_2 : SF := (asgS (callE 2 F_l_declared [(getV 0), (cV (.int 1))]) (nameT 1))
noncomputable def sb_l_document_at_3 : SF := (ifS (boolE (bin2 eqD (bin2 ixDD (getV 1) (cV (.int 0))) (cV (.str t_bad)))) (seqS (retS (getV 1)) nxS) nxS)
noncomputable def sb_l_document_at_4 : SF := (asgS (callE 3 F_l_selection_at [(getV 0), (bin2 ixDD (getV 1) (cV (.int 2))), (cV (.int 1))]) (nameT 2))
noncomputable def sb_l_document_at_5 : SF := (ifS (boolE (bin2 eqD (bin2 ixDD (getV 2) (cV (.int 0))) (cV (.str t_bad)))) (seqS (retS (getV 2)) nxS) nxS)
noncomputable def sb_l_document_at_6 : SF := (asgS (lstM []) (nameT 3))
noncomputable def sb_l_document_at_7 : SF := (asgS (bin2 ixDD (getV 2) (cV (.int 2))) (nameT 4))
noncomputable def sb_l_document_at_8 : SF := (forS (rng1I (bltE lenD [(getV 0)])) (nameT 5) lb_l_document_at_1)
noncomputable def sb_l_document_at_9 : SF := (retS (tupE [(cV (.str t_ok)), (tupE [(bin2 ixDD (getV 1) (cV (.int 1))), (bin2 ixDD (getV 2) (cV (.int 1))), (bltE tupleD [(getV 3)])]), (getV 4)]))
noncomputable def b_l_document_at : SF := (seqS sb_l_document_at_1 (seqS sb_l_document_at_2 (seqS sb_l_document_at_3 (seqS sb_l_document_at_4 (seqS sb_l_document_at_5 (seqS sb_l_document_at_6 (seqS sb_l_document_at_7 (seqS sb_l_document_at_8 (seqS sb_l_document_at_9 nxS)))))))))
noncomputable def C_l_document_at : CC := { sc := defScope s_l_document_at, N := N_l_document_at, isDef := true, fns := [("_law_declared", 2, F_l_declared), ("_law_fragment_at", 3, F_l_fragment_at), ("_law_is", 4, F_l_is), ("_law_selection_at", 3, F_l_selection_at)], cst := [], blt := ["len", "range", "tuple"], mts := ["_law_fragments"], exs := [], cls := [], mth := M_l_document_at, mks := [], kds := [] }
theorem e_l_document_at : cSs 60 (C_l_document_at) (defBody s_l_document_at) = some (b_l_document_at) := by kernel_rfl
noncomputable def F_l_document_at : FF := runDef 7 b_l_document_at
abbrev s_l_expected : Stmt := top 48
abbrev N_l_expected : List Str := ["_law_text", "_law_words", "_law_found", "_law_place"]
abbrev P_l_expected : List Str := ["_law_text"]
theorem o_l_expected : defOk N_l_expected P_l_expected (defScope s_l_expected) = true := by decide +kernel
noncomputable def M_l_expected : Mtt := []
noncomputable def b_l_expected : SF := (seqS (asgS (callE 1 F_l_split [(getV 0)]) (nameT 1)) (seqS (ifS (boolE (bin2 eqD (bin2 ixDD (getV 1) (cV (.int 0))) (cV (.str t_fault)))) (seqS (retS (getV 1)) nxS) nxS) (seqS (asgS (callE 1 F_l_document_at [(bin2 ixDD (getV 1) (cV (.int 1)))]) (nameT 2)) (seqS (ifS (boolE (bin2 eqD (bin2 ixDD (getV 2) (cV (.int 0))) (cV (.str t_ok)))) (seqS (retS (tupE [(cV (.str t_document)), (bin2 ixDD (getV 2) (cV (.int 1)))])) nxS) nxS) (seqS (asgS (bltE lenD [(getV 0)]) (nameT 3)) (seqS (ifS (boolE (bin2 ltS (bin2 ixDD (getV 2) (cV (.int 1))) (bltE lenD [(bin2 ixDD (getV 1) (cV (.int 1)))]))) (seqS (asgS (bin2 ixDD (bin2 ixDD (bin2 ixDD (getV 1) (cV (.int 1))) (bin2 ixDD (getV 2) (cV (.int 1)))) (cV (.int 0))) (nameT 3)) nxS) nxS) (seqS (retS (tupE [(cV (.str t_fault)), (getV 3)])) nxS)))))))
noncomputable def C_l_expected : CC := { sc := defScope s_l_expected, N := N_l_expected, isDef := true, fns := [("_law_document_at", 1, F_l_document_at), ("_law_split", 1, F_l_split)], cst := [], blt := ["len"], mts := [], exs := [], cls := [], mth := M_l_expected, mks := [], kds := [] }
theorem e_l_expected : cSs 60 (C_l_expected) (defBody s_l_expected) = some (b_l_expected) := by kernel_rfl
noncomputable def F_l_expected : FF := runDef 4 b_l_expected
abbrev s_l_told : Stmt := top 49
abbrev N_l_told : List Str := ["_law_text", "_law_told_here", "e"]
abbrev P_l_told : List Str := ["_law_text"]
theorem o_l_told : defOk N_l_told P_l_told (defScope s_l_told) = true := by decide +kernel
noncomputable def M_l_told : Mtt := []
noncomputable def b_l_told : SF := (seqS (asgS (callE 1 F_parse_document [(getV 0)]) (nameT 1)) (seqS (retS (tupE [(cV (.str t_document)), (tupE [(attrE T_cls "variables" (getV 1)), (attrE T_cls "selection" (getV 1)), (attrE T_cls "fragments" (getV 1))])])) nxS))
noncomputable def C_l_told : CC := { sc := defScope s_l_told, N := N_l_told, isDef := true, fns := [("parse_document", 1, F_parse_document)], cst := [], blt := [], mts := [], exs := [], cls := T_cls, mth := M_l_told, mks := [], kds := [] }
theorem e_l_told : cSs 60 (C_l_told) (tryB (defBody s_l_told)) = some (b_l_told) := by kernel_rfl
noncomputable def F_l_told : FF := runDef 3 (seqS (tryS "InvalidDocument" (sdTup "place" t_fault) b_l_told) nxS)
abbrev s_l_start : Stmt := top 50
abbrev N_l_start : List Str := ["_law_state", "_law_script", "_law_texts", "_law_kind", "_law_depth"]
abbrev P_l_start : List Str := ["_law_state", "_law_script"]
theorem o_l_start : defOk N_l_start P_l_start (defScope s_l_start) = true := by decide +kernel
noncomputable def M_l_start : Mtt := []
noncomputable def sb_l_start_1 : SF := (asgS (lstE [(cV (.str t_query)), (cV (.str [123])), (cV (.str [97])), (cV (.str [58])), (cV (.str [98])), (cV (.str [40])), (cV (.str [110])), (cV (.str [58])), (cV (.str tq_33)), (cV (.str [116])), (cV (.str [58])), (cV (.str t_true)), (cV (.str [41])), (cV (.str [64])), (cV (.str t_if)), (cV (.str [40])), (cV (.str tq_35)), (cV (.str [41])), (cV (.str [123])), (cV (.str [99])), (cV (.str [125])), (cV (.str t_dots)), (cV (.str t_on)), (cV (.str [65])), (cV (.str [123])), (cV (.str [100])), (cV (.str t_meta)), (cV (.str [125])), (cV (.str t_dots)), (cV (.str [70])), (cV (.str [64])), (cV (.str t_unless)), (cV (.str [40])), (cV (.str t_false)), (cV (.str [41])), (cV (.str t_dots)), (cV (.str [123])), (cV (.str [101])), (cV (.str [125])), (cV (.str [125])), (cV (.str t_fragment)), (cV (.str [70])), (cV (.str t_on)), (cV (.str [65])), (cV (.str [123])), (cV (.str [103])), (cV (.str [125]))]) (nameT 2))
noncomputable def sb_l_start_2 : SF := (asgS (callE 3 F_l_draw [(getV 0), (getV 1), (cV (.int 4))]) (nameT 3))
noncomputable def sb_l_start_3 : SF := (ifS (boolE (bin2 eqD (getV 3) (cV (.int 1)))) (seqS (retS (bin2 addD (lstE [(cV (.str t_query)), (cV (.str [40])), (cV (.str tq_33)), (cV (.str [58])), (cV (.str t_Int)), (cV (.str [33])), (cV (.str [61])), (cV (.str [55])), (cV (.str tq_35)), (cV (.str [58])), (cV (.str [91])), (cV (.str [91])), (cV (.str [65])), (cV (.str [33])), (cV (.str [93])), (cV (.str [93])), (cV (.str [41]))]) (sliceE (getV 2) (some (cV (.int 1))) none))) nxS) nxS)
noncomputable def sb_l_start_4 : SF := (ifS (boolE (bin2 eqD (getV 3) (cV (.int 2)))) (seqS (asgS (bin2 addD (cV (.int 8)) (callE 3 F_l_draw [(getV 0), (getV 1), (cV (.int 6))])) (nameT 4)) (seqS (retS (bin2 addD (bin2 addD (lstE [(cV (.str t_query))]) (bin2 mulSD (lstE [(cV (.str [123])), (cV (.str [97]))]) (getV 4))) (bin2 mulSD (lstE [(cV (.str [125]))]) (getV 4)))) nxS)) nxS)
noncomputable def sb_l_start_5 : SF := (ifS (boolE (bin2 eqD (getV 3) (cV (.int 3)))) (seqS (retS (bin2 addD (getV 2) (bin2 mulSD (lstE [(cV (.str t_fragment)), (cV (.str [71])), (cV (.str t_on)), (cV (.str [66])), (cV (.str [123])), (cV (.str [97])), (cV (.str [125]))]) (bin2 addD (cV (.int 7)) (callE 3 F_l_draw [(getV 0), (getV 1), (cV (.int 5))]))))) nxS) nxS)
noncomputable def sb_l_start_6 : SF := (retS (getV 2))
noncomputable def b_l_start : SF := (seqS sb_l_start_1 (seqS sb_l_start_2 (seqS sb_l_start_3 (seqS sb_l_start_4 (seqS sb_l_start_5 (seqS sb_l_start_6 nxS))))))
noncomputable def C_l_start : CC := { sc := defScope s_l_start, N := N_l_start, isDef := true, fns := [("_law_draw", 3, F_l_draw)], cst := [], blt := [], mts := [], exs := [], cls := [], mth := M_l_start, mks := [], kds := [] }
theorem e_l_start : cSs 60 (C_l_start) (defBody s_l_start) = some (b_l_start) := by kernel_rfl
noncomputable def F_l_start : FF := runDef 5 b_l_start
abbrev s_law : Stmt := top 51
abbrev N_law : List Str := ["_law_script", "_law_state", "_law_pieces", "_law_new", "_law_k", "_law_at", "_law_kind", "_law_word", "_law_text"]
abbrev P_law : List Str := ["_law_script"]
theorem o_law : defOk N_law P_law (defScope s_law) = true := by decide +kernel
noncomputable def M_law : Mtt := []
noncomputable def lb_law_1 : SF := (seqS (asgS (callE 3 F_l_draw [(getV 1), (getV 0), (bltE lenD [(getV 2)])]) (nameT 5)) (seqS (asgS (callE 3 F_l_draw [(getV 1), (getV 0), (cV (.int 4))]) (nameT 6)) (seqS (asgS (bin2 ixDD (getV 3) (callE 3 F_l_draw [(getV 1), (getV 0), (cV (.int 24))])) (nameT 7)) (seqS (ifS (andT (boolE (bin2 eqD (getV 6) (cV (.int 0)))) (boolE (bin2 (cmpI fun i j => decide (j < i)) (bltE lenD [(getV 2)]) (cV (.int 1))))) (seqS (asgS (bin2 addD (sliceE (getV 2) none (some (getV 5))) (sliceE (getV 2) (some (bin2 addD (getV 5) (cV (.int 1)))) none)) (nameT 2)) nxS) (seqS (ifS (boolE (bin2 eqD (getV 6) (cV (.int 1)))) (seqS (asgS (bin2 addD (bin2 addD (sliceE (getV 2) none (some (getV 5))) (lstE [(getV 7)])) (sliceE (getV 2) (some (getV 5)) none)) (nameT 2)) nxS) (seqS (ifS (boolE (bin2 eqD (getV 6) (cV (.int 2)))) (seqS (asgS (bin2 addD (bin2 addD (sliceE (getV 2) none (some (getV 5))) (lstE [(getV 7)])) (sliceE (getV 2) (some (bin2 addD (getV 5) (cV (.int 1)))) none)) (nameT 2)) nxS) (seqS (asgS (sliceE (getV 2) none (some (bin2 addD (getV 5) (cV (.int 1))))) (nameT 2)) nxS)) nxS)) nxS)) nxS))))
noncomputable def sb_law_1 : SF := (asgS (lstM [(cV (.int 0)), (cV (.int 0))]) (nameT 1))
noncomputable def sb_law_2 : SF := (asgS (callE 2 F_l_start [(getV 1), (getV 0)]) (nameT 2))
noncomputable def sb_law_3 : SF := (asgS (lstE [(cV (.str [123])), (cV (.str [125])), (cV (.str [40])), (cV (.str [41])), (cV (.str [58])), (cV (.str [61])), (cV (.str [33])), (cV (.str [91])), (cV (.str [93])), (cV (.str [64])), (cV (.str t_dots)), (cV (.str [97])), (cV (.str t_on)), (cV (.str t_if)), (cV (.str t_true)), (cV (.str t_null)), (cV (.str tq_33)), (cV (.str [55])), (cV (.str tq_36)), (cV (.str t_meta)), (cV (.str t_query)), (cV (.str t_fragment)), (cV (.str tq_37)), (cV (.str [46]))]) (nameT 3))
noncomputable def sb_law_4 : SF := (forS (rng1I (callE 3 F_l_draw [(getV 1), (getV 0), (cV (.int 4))])) (nameT 4) lb_law_1)
noncomputable def sb_law_5 : SF := (asgS (bin2 addD (methE isStr joinD (cV (.str [32])) [(getV 2)]) (bin2 ixDD (lstE [(cV (.str [])), (cV (.str [32])), (cV (.str [10]))]) (callE 3 F_l_draw [(getV 1), (getV 0), (cV (.int 3))]))) (nameT 8))
noncomputable def sb_law_6 : SF := (retS (bin2 eqD (callE 1 F_l_told [(getV 8)]) (callE 1 F_l_expected [(getV 8)])))
noncomputable def b_law : SF := (seqS sb_law_1 (seqS sb_law_2 (seqS sb_law_3 (seqS sb_law_4 (seqS sb_law_5 (seqS sb_law_6 nxS))))))
noncomputable def C_law : CC := { sc := defScope s_law, N := N_law, isDef := true, fns := [("_law_draw", 3, F_l_draw), ("_law_expected", 1, F_l_expected), ("_law_start", 2, F_l_start), ("_law_told", 1, F_l_told)], cst := [], blt := ["len", "range"], mts := ["_law_state"], exs := [], cls := [], mth := M_law, mks := [], kds := [] }
theorem e_law : cSs 60 (C_law) (defBody s_law) = some (b_law) := by kernel_rfl
noncomputable def F_law : FF := runDef 9 b_law
structure Facts (P : Program) (w : World) (K : PySem.W.Frag) (mg : Str → Option Value) (C fI cc cda S : Addr) : Prop where
  t_run_end : FunT K mg "run_end" "run_end" s_run_end P_run_end
  t_read_name : FunT K mg "read_name" "read_name" s_read_name P_read_name
  t_read_number : FunT K mg "read_number" "read_number" s_read_number P_read_number
  t_read_string : FunT K mg "read_string" "read_string" s_read_string P_read_string
  t_read_word : FunT K mg "read_word" "read_word" s_read_word P_read_word
  t_split_words : FunT K mg "split_words" "split_words" s_split_words P_split_words
  t_parse_document : FunT K mg "parse_document" "parse_document" s_parse_document P_parse_document
  t_l_refill : FunT K mg "_law_refill" "_law_refill" s_l_refill P_l_refill
  t_l_draw : FunT K mg "_law_draw" "_law_draw" s_l_draw P_l_draw
  t_l_run : FunT K mg "_law_run" "_law_run" s_l_run P_l_run
  t_l_named : FunT K mg "_law_named" "_law_named" s_l_named P_l_named
  t_l_word_at : FunT K mg "_law_word_at" "_law_word_at" s_l_word_at P_l_word_at
  t_l_split : FunT K mg "_law_split" "_law_split" s_l_split P_l_split
  t_l_is : FunT K mg "_law_is" "_law_is" s_l_is P_l_is
  t_l_kind_at : FunT K mg "_law_kind_at" "_law_kind_at" s_l_kind_at P_l_kind_at
  t_l_plain_at : FunT K mg "_law_plain_at" "_law_plain_at" s_l_plain_at P_l_plain_at
  t_l_constant : FunT K mg "_law_constant" "_law_constant" s_l_constant P_l_constant
  t_l_value_at : FunT K mg "_law_value_at" "_law_value_at" s_l_value_at P_l_value_at
  t_l_type_at : FunT K mg "_law_type_at" "_law_type_at" s_l_type_at P_l_type_at
  t_l_declared : FunT K mg "_law_declared" "_law_declared" s_l_declared P_l_declared
  t_l_conditions_at : FunT K mg "_law_conditions_at" "_law_conditions_at" s_l_conditions_at P_l_conditions_at
  t_l_arguments_at : FunT K mg "_law_arguments_at" "_law_arguments_at" s_l_arguments_at P_l_arguments_at
  t_l_field_at : FunT K mg "_law_field_at" "_law_field_at" s_l_field_at P_l_field_at
  t_l_spread_at : FunT K mg "_law_spread_at" "_law_spread_at" s_l_spread_at P_l_spread_at
  t_l_selection_at : FunT K mg "_law_selection_at" "_law_selection_at" s_l_selection_at P_l_selection_at
  t_l_fragment_at : FunT K mg "_law_fragment_at" "_law_fragment_at" s_l_fragment_at P_l_fragment_at
  t_l_document_at : FunT K mg "_law_document_at" "_law_document_at" s_l_document_at P_l_document_at
  t_l_expected : FunT K mg "_law_expected" "_law_expected" s_l_expected P_l_expected
  t_l_told : FunT K mg "_law_told" "_law_told" s_l_told P_l_told
  t_l_start : FunT K mg "_law_start" "_law_start" s_l_start P_l_start
  t_Document_init : MkT K mg "Document" "Document.__init__" s_Document_init P_Document_init
  t_Parser_init : MkT K mg "Parser" "Parser.__init__" s_Parser_init P_Parser_init
  t_Parser_fail : MthT K mg "Parser" "fail" "Parser.fail" s_Parser_fail P_Parser_fail
  t_Parser_is_next : MthT K mg "Parser" "is_next" "Parser.is_next" s_Parser_is_next P_Parser_is_next
  t_Parser_is_kind : MthT K mg "Parser" "is_kind" "Parser.is_kind" s_Parser_is_kind P_Parser_is_kind
  t_Parser_take : MthT K mg "Parser" "take" "Parser.take" s_Parser_take P_Parser_take
  t_Parser_skip : MthT K mg "Parser" "skip" "Parser.skip" s_Parser_skip P_Parser_skip
  t_Parser_try_sign : MthT K mg "Parser" "try_sign" "Parser.try_sign" s_Parser_try_sign P_Parser_try_sign
  t_Parser_plain_name : MthT K mg "Parser" "plain_name" "Parser.plain_name" s_Parser_plain_name P_Parser_plain_name
  t_Parser_constant : MthT K mg "Parser" "constant" "Parser.constant" s_Parser_constant P_Parser_constant
  t_Parser_value : MthT K mg "Parser" "value" "Parser.value" s_Parser_value P_Parser_value
  t_Parser_type_at : MthT K mg "Parser" "type_at" "Parser.type_at" s_Parser_type_at P_Parser_type_at
  t_Parser_declarations : MthT K mg "Parser" "declarations" "Parser.declarations" s_Parser_declarations P_Parser_declarations
  t_Parser_conditions : MthT K mg "Parser" "conditions" "Parser.conditions" s_Parser_conditions P_Parser_conditions
  t_Parser_arguments : MthT K mg "Parser" "arguments" "Parser.arguments" s_Parser_arguments P_Parser_arguments
  t_Parser_field : MthT K mg "Parser" "field" "Parser.field" s_Parser_field P_Parser_field
  t_Parser_spread : MthT K mg "Parser" "spread" "Parser.spread" s_Parser_spread P_Parser_spread
  t_Parser_selection : MthT K mg "Parser" "selection" "Parser.selection" s_Parser_selection P_Parser_selection
  t_Parser_fragment : MthT K mg "Parser" "fragment" "Parser.fragment" s_Parser_fragment P_Parser_fragment
  t_Parser_document : MthT K mg "Parser" "document" "Parser.document" s_Parser_document P_Parser_document
  c_BLANKS : CstOk K mg "BLANKS" (.str t_BLA)
  c_DIGITS : CstOk K mg "DIGITS" (.str t_dig)
  c_LETTERS : CstOk K mg "LETTERS" (.str t_LET)
  c_META : CstOk K mg "META" (.str t_meta)
  c_MOST_DEPTH : CstOk K mg "MOST_DEPTH" (.int 10)
  c_MOST_DIGITS : CstOk K mg "MOST_DIGITS" (.int 10)
  c_MOST_FRAGMENTS : CstOk K mg "MOST_FRAGMENTS" (.int 10)
  c_MOST_LISTS : CstOk K mg "MOST_LISTS" (.int 5)
  c_MOST_NAME : CstOk K mg "MOST_NAME" (.int 30)
  c_NAME_SIGNS : CstOk K mg "NAME_SIGNS" (.str t_NAM)
  c_SIGNS : CstOk K mg "SIGNS" (.str t_SIG)
  b_int : mg "int" = none
  b_len : mg "len" = none
  b_range : mg "range" = none
  b_tuple : mg "tuple" = none
  b_isinstance : mg "isinstance" = none
  b_bool : mg "bool" = none
  b_super : mg "super" = none
  k_Document : ClsOk K mg "Document" ["fragments", "selection", "variables"]
  k_Parser : ClsOk K mg "Parser" ["at", "end", "words"]
  d_WORD_CONSTANTS : KdOk K w mg "WORD_CONSTANTS" tb_WORD_CONSTANTS
  x_InvalidDocument : SDX.SdTxt P K mg "InvalidDocument" "place" C fI cc cda
  xe_InvalidDocument : ExcD K C
  xm_InvalidDocument : PySem.W.exmOne K (.ref C) (.ref C) = some true
  xs_InvalidDocument : PySem.W.kitOne K (.ref C) (.ref S) = some true
  g_S : mg "SeamError" = some (.ref S)
section
variable {P : Program} {w : World} {K : PySem.W.Frag} {mg : Str → Option Value} {base : Heap} {C fI cc cda S : Addr}
theorem sn_place : SDX.SdName "place" := ⟨by decide, by decide, fun _ _ _ _ _ _ _ _ _ _ _ _ _ _ _ _ _ _ _ _ _ _ _ _ => .of_eq (by first | rfl | with_unfolding_all rfl)⟩
theorem clsT (F : Facts P w K mg C fI cc cda S) : AllCl K mg T_cls := ⟨F.k_Document, F.k_Parser, trivial⟩
theorem sim_run_end (F : Facts P w K mg C fI cc cda S) : FnSim P w K mg base 1 "run_end" 3 F_run_end :=
  sim_mk (k := 0) (C := C_run_end) F.t_run_end o_run_end ⟨rfl, rfl⟩ e_run_end ⟨rfl, rfl⟩ ⟨trivial, trivial, ⟨F.b_len, trivial⟩, trivial, trivial, trivial, trivial, trivial⟩
theorem sim_read_name (F : Facts P w K mg C fI cc cda S) : FnSim P w K mg base 2 "read_name" 3 F_read_name :=
  sim_mk (k := 1) (C := C_read_name) F.t_read_name o_read_name ⟨rfl, rfl⟩ e_read_name ⟨rfl, rfl⟩ ⟨⟨((sim_run_end F).mono (by decide)), trivial⟩, ⟨F.c_LETTERS, F.c_META, F.c_MOST_NAME, F.c_NAME_SIGNS, trivial⟩, ⟨F.b_len, trivial⟩, ⟨raise_sd F.x_InvalidDocument sn_place (by decide), trivial⟩, trivial, trivial, trivial, trivial⟩
theorem sim_read_number (F : Facts P w K mg C fI cc cda S) : FnSim P w K mg base 2 "read_number" 2 F_read_number :=
  sim_mk (k := 1) (C := C_read_number) F.t_read_number o_read_number ⟨rfl, rfl⟩ e_read_number ⟨rfl, rfl⟩ ⟨⟨((sim_run_end F).mono (by decide)), trivial⟩, ⟨F.c_DIGITS, F.c_MOST_DIGITS, trivial⟩, ⟨F.b_int, trivial⟩, ⟨raise_sd F.x_InvalidDocument sn_place (by decide), trivial⟩, trivial, trivial, trivial, trivial⟩
theorem sim_read_string (F : Facts P w K mg C fI cc cda S) : FnSim P w K mg base 1 "read_string" 2 F_read_string :=
  sim_mk (k := 0) (C := C_read_string) F.t_read_string o_read_string ⟨rfl, rfl⟩ e_read_string ⟨rfl, rfl⟩ ⟨trivial, trivial, ⟨F.b_len, trivial⟩, ⟨raise_sd F.x_InvalidDocument sn_place (by decide), trivial⟩, trivial, trivial, trivial, trivial⟩
theorem sim_read_word (F : Facts P w K mg C fI cc cda S) : FnSim P w K mg base 3 "read_word" 2 F_read_word :=
  sim_mk (k := 2) (C := C_read_word) F.t_read_word o_read_word ⟨rfl, rfl⟩ e_read_word ⟨rfl, rfl⟩ ⟨⟨((sim_read_name F).mono (by decide)), ((sim_read_number F).mono (by decide)), ((sim_read_string F).mono (by decide)), trivial⟩, ⟨F.c_DIGITS, F.c_META, F.c_SIGNS, trivial⟩, trivial, ⟨raise_sd F.x_InvalidDocument sn_place (by decide), trivial⟩, trivial, trivial, trivial, trivial⟩
theorem sim_split_words (F : Facts P w K mg C fI cc cda S) : FnSim P w K mg base 4 "split_words" 1 F_split_words :=
  sim_mk (k := 3) (C := C_split_words) F.t_split_words o_split_words ⟨rfl, rfl⟩ e_split_words ⟨rfl, rfl⟩ ⟨⟨((sim_read_word F).mono (by decide)), ((sim_run_end F).mono (by decide)), trivial⟩, ⟨F.c_BLANKS, trivial⟩, ⟨F.b_len, trivial⟩, trivial, trivial, trivial, trivial, trivial⟩
theorem sim_Parser_init (F : Facts P w K mg C fI cc cda S) : MakeSim P w K mg base 5 "Parser" 2 F_Parser_init :=
  make_mk (k := 4) (C := C_Parser_init) F.t_Parser_init o_Parser_init ⟨rfl, rfl⟩ e_Parser_init ⟨rfl, rfl⟩ ⟨⟨((sim_split_words F).mono (by decide)), trivial⟩, trivial, ⟨F.b_len, trivial⟩, trivial, clsT F, trivial, trivial, trivial⟩
theorem sim_Document_init (F : Facts P w K mg C fI cc cda S) : MakeSim P w K mg base 1 "Document" 4 F_Document_init :=
  make_mk (k := 0) (C := C_Document_init) F.t_Document_init o_Document_init ⟨rfl, rfl⟩ e_Document_init ⟨rfl, rfl⟩ ⟨trivial, trivial, trivial, trivial, clsT F, trivial, trivial, trivial⟩
theorem sim_Parser_fail (F : Facts P w K mg C fI cc cda S) : MthSim P w K mg base 1 "Parser" "fail" 1 F_Parser_fail :=
  mth_mk (k := 0) (C := C_Parser_fail) F.t_Parser_fail o_Parser_fail ⟨rfl, rfl⟩ e_Parser_fail ⟨rfl, rfl⟩ ⟨trivial, trivial, ⟨F.b_len, trivial⟩, ⟨raise_sd F.x_InvalidDocument sn_place (by decide), trivial⟩, clsT F, trivial, trivial, trivial⟩
theorem sim_Parser_is_kind (F : Facts P w K mg C fI cc cda S) : MthSim P w K mg base 1 "Parser" "is_kind" 2 F_Parser_is_kind :=
  mth_mk (k := 0) (C := C_Parser_is_kind) F.t_Parser_is_kind o_Parser_is_kind ⟨rfl, rfl⟩ e_Parser_is_kind ⟨rfl, rfl⟩ ⟨trivial, trivial, ⟨F.b_len, trivial⟩, trivial, clsT F, trivial, trivial, trivial⟩
theorem sim_Parser_take (F : Facts P w K mg C fI cc cda S) : MthSim P w K mg base 2 "Parser" "take" 2 F_Parser_take :=
  mth_mk (k := 1) (C := C_Parser_take) F.t_Parser_take o_Parser_take ⟨rfl, rfl⟩ e_Parser_take ⟨rfl, rfl⟩ ⟨trivial, trivial, trivial, trivial, clsT F, ⟨((sim_Parser_fail F).mono (by decide)), ((sim_Parser_is_kind F).mono (by decide)), trivial⟩, trivial, trivial⟩
theorem sim_Parser_constant (F : Facts P w K mg C fI cc cda S) : MthSim P w K mg base 3 "Parser" "constant" 1 F_Parser_constant :=
  mth_mk (k := 2) (C := C_Parser_constant) F.t_Parser_constant o_Parser_constant ⟨rfl, rfl⟩ e_Parser_constant ⟨rfl, rfl⟩ ⟨trivial, trivial, trivial, trivial, clsT F, ⟨((sim_Parser_fail F).mono (by decide)), ((sim_Parser_is_kind F).mono (by decide)), ((sim_Parser_take F).mono (by decide)), trivial⟩, trivial, ⟨F.d_WORD_CONSTANTS, trivial⟩⟩
theorem sim_Parser_is_next (F : Facts P w K mg C fI cc cda S) : MthSim P w K mg base 1 "Parser" "is_next" 3 F_Parser_is_next :=
  mth_mk (k := 0) (C := C_Parser_is_next) F.t_Parser_is_next o_Parser_is_next ⟨rfl, rfl⟩ e_Parser_is_next ⟨rfl, rfl⟩ ⟨trivial, trivial, ⟨F.b_len, trivial⟩, trivial, clsT F, trivial, trivial, trivial⟩
theorem sim_Parser_skip (F : Facts P w K mg C fI cc cda S) : MthSim P w K mg base 2 "Parser" "skip" 3 F_Parser_skip :=
  mth_mk (k := 1) (C := C_Parser_skip) F.t_Parser_skip o_Parser_skip ⟨rfl, rfl⟩ e_Parser_skip ⟨rfl, rfl⟩ ⟨trivial, trivial, trivial, trivial, clsT F, ⟨((sim_Parser_fail F).mono (by decide)), ((sim_Parser_is_next F).mono (by decide)), trivial⟩, trivial, trivial⟩
theorem sim_Parser_try_sign (F : Facts P w K mg C fI cc cda S) : MthSim P w K mg base 2 "Parser" "try_sign" 2 F_Parser_try_sign :=
  mth_mk (k := 1) (C := C_Parser_try_sign) F.t_Parser_try_sign o_Parser_try_sign ⟨rfl, rfl⟩ e_Parser_try_sign ⟨rfl, rfl⟩ ⟨trivial, trivial, trivial, trivial, clsT F, ⟨((sim_Parser_is_next F).mono (by decide)), trivial⟩, trivial, trivial⟩
theorem sim_Parser_plain_name (F : Facts P w K mg C fI cc cda S) : MthSim P w K mg base 3 "Parser" "plain_name" 1 F_Parser_plain_name :=
  mth_mk (k := 2) (C := C_Parser_plain_name) F.t_Parser_plain_name o_Parser_plain_name ⟨rfl, rfl⟩ e_Parser_plain_name ⟨rfl, rfl⟩ ⟨trivial, ⟨F.c_META, trivial⟩, trivial, trivial, trivial, ⟨((sim_Parser_fail F).mono (by decide)), ((sim_Parser_is_next F).mono (by decide)), ((sim_Parser_take F).mono (by decide)), trivial⟩, trivial, trivial⟩
theorem sims_Parser_type_at (F : Facts P w K mg C fI cc cda S) : ∀ n : Nat, MthSim P w K mg base (3 + n) "Parser" "type_at" 2 (W_Parser_type_at n 0)
  | 0 => mth_stuck F.t_Parser_type_at rfl
  | n + 1 => by
    obtain h0 := sims_Parser_type_at F n
    exact mth_mk (k := 3 + n) (C := C_Parser_type_at (W_Parser_type_at n 0)) F.t_Parser_type_at o_Parser_type_at ⟨rfl, rfl⟩ (e_Parser_type_at _) ⟨rfl, rfl⟩ ⟨trivial, trivial, trivial, trivial, trivial, ⟨((sim_Parser_fail F).mono (by omega)), ((sim_Parser_is_next F).mono (by omega)), ((sim_Parser_plain_name F).mono (by omega)), ((sim_Parser_skip F).mono (by omega)), ((sim_Parser_try_sign F).mono (by omega)), h0, trivial⟩, trivial, trivial⟩
theorem sim_Parser_type_at (F : Facts P w K mg C fI cc cda S) : MthSim P w K mg base 63 "Parser" "type_at" 2 F_Parser_type_at := (sims_Parser_type_at F 60)
theorem sim_Parser_declarations (F : Facts P w K mg C fI cc cda S) : MthSim P w K mg base 64 "Parser" "declarations" 1 F_Parser_declarations :=
  mth_mk (k := 63) (C := C_Parser_declarations) F.t_Parser_declarations o_Parser_declarations ⟨rfl, rfl⟩ e_Parser_declarations ⟨rfl, rfl⟩ ⟨trivial, ⟨F.c_MOST_LISTS, trivial⟩, ⟨F.b_tuple, trivial⟩, trivial, trivial, ⟨((sim_Parser_constant F).mono (by decide)), ((sim_Parser_skip F).mono (by decide)), ((sim_Parser_take F).mono (by decide)), ((sim_Parser_try_sign F).mono (by decide)), ((sim_Parser_type_at F).mono (by decide)), trivial⟩, trivial, trivial⟩
theorem sim_Parser_value (F : Facts P w K mg C fI cc cda S) : MthSim P w K mg base 4 "Parser" "value" 1 F_Parser_value :=
  mth_mk (k := 3) (C := C_Parser_value) F.t_Parser_value o_Parser_value ⟨rfl, rfl⟩ e_Parser_value ⟨rfl, rfl⟩ ⟨trivial, trivial, trivial, trivial, trivial, ⟨((sim_Parser_constant F).mono (by decide)), ((sim_Parser_is_kind F).mono (by decide)), ((sim_Parser_take F).mono (by decide)), trivial⟩, trivial, trivial⟩
theorem sim_Parser_arguments (F : Facts P w K mg C fI cc cda S) : MthSim P w K mg base 5 "Parser" "arguments" 1 F_Parser_arguments :=
  mth_mk (k := 4) (C := C_Parser_arguments) F.t_Parser_arguments o_Parser_arguments ⟨rfl, rfl⟩ e_Parser_arguments ⟨rfl, rfl⟩ ⟨trivial, trivial, ⟨F.b_tuple, trivial⟩, trivial, trivial, ⟨((sim_Parser_plain_name F).mono (by decide)), ((sim_Parser_skip F).mono (by decide)), ((sim_Parser_try_sign F).mono (by decide)), ((sim_Parser_value F).mono (by decide)), trivial⟩, trivial, trivial⟩
theorem sim_Parser_conditions (F : Facts P w K mg C fI cc cda S) : MthSim P w K mg base 5 "Parser" "conditions" 1 F_Parser_conditions :=
  mth_mk (k := 4) (C := C_Parser_conditions) F.t_Parser_conditions o_Parser_conditions ⟨rfl, rfl⟩ e_Parser_conditions ⟨rfl, rfl⟩ ⟨trivial, trivial, ⟨F.b_tuple, trivial⟩, trivial, trivial, ⟨((sim_Parser_fail F).mono (by decide)), ((sim_Parser_is_next F).mono (by decide)), ((sim_Parser_skip F).mono (by decide)), ((sim_Parser_take F).mono (by decide)), ((sim_Parser_try_sign F).mono (by decide)), ((sim_Parser_value F).mono (by decide)), trivial⟩, trivial, trivial⟩
theorem sims_Parser_field (F : Facts P w K mg C fI cc cda S) : ∀ n : Nat, MthSim P w K mg base (5 + n) "Parser" "field" 2 (W_Parser_field n 0) ∧ MthSim P w K mg base (5 + n) "Parser" "selection" 2 (W_Parser_field n 1) ∧ MthSim P w K mg base (5 + n) "Parser" "spread" 2 (W_Parser_field n 2)
  | 0 => ⟨mth_stuck F.t_Parser_field rfl, mth_stuck F.t_Parser_selection rfl, mth_stuck F.t_Parser_spread rfl⟩
  | n + 1 => by
    obtain ⟨h0, h1, h2⟩ := sims_Parser_field F n
    exact ⟨mth_mk (k := 5 + n) (C := C_Parser_field (W_Parser_field n 0) (W_Parser_field n 1) (W_Parser_field n 2)) F.t_Parser_field o_Parser_field ⟨rfl, rfl⟩ (e_Parser_field _ _ _) ⟨rfl, rfl⟩ ⟨trivial, ⟨F.c_META, trivial⟩, trivial, trivial, trivial, ⟨((sim_Parser_arguments F).mono (by omega)), ((sim_Parser_conditions F).mono (by omega)), ((sim_Parser_fail F).mono (by omega)), ((sim_Parser_is_next F).mono (by omega)), h1, ((sim_Parser_skip F).mono (by omega)), ((sim_Parser_take F).mono (by omega)), trivial⟩, trivial, trivial⟩,
      mth_mk (k := 5 + n) (C := C_Parser_selection (W_Parser_field n 0) (W_Parser_field n 1) (W_Parser_field n 2)) F.t_Parser_selection o_Parser_selection ⟨rfl, rfl⟩ (e_Parser_selection _ _ _) ⟨rfl, rfl⟩ ⟨trivial, trivial, ⟨F.b_tuple, trivial⟩, trivial, trivial, ⟨((sim_Parser_fail F).mono (by omega)), h0, ((sim_Parser_is_next F).mono (by omega)), ((sim_Parser_skip F).mono (by omega)), h2, ((sim_Parser_try_sign F).mono (by omega)), trivial⟩, trivial, trivial⟩,
      mth_mk (k := 5 + n) (C := C_Parser_spread (W_Parser_field n 0) (W_Parser_field n 1) (W_Parser_field n 2)) F.t_Parser_spread o_Parser_spread ⟨rfl, rfl⟩ (e_Parser_spread _ _ _) ⟨rfl, rfl⟩ ⟨trivial, trivial, trivial, trivial, trivial, ⟨((sim_Parser_conditions F).mono (by omega)), ((sim_Parser_is_kind F).mono (by omega)), ((sim_Parser_is_next F).mono (by omega)), ((sim_Parser_plain_name F).mono (by omega)), h1, ((sim_Parser_skip F).mono (by omega)), trivial⟩, trivial, trivial⟩⟩
theorem sim_Parser_field (F : Facts P w K mg C fI cc cda S) : MthSim P w K mg base 65 "Parser" "field" 2 F_Parser_field := (sims_Parser_field F 60).1
theorem sim_Parser_selection (F : Facts P w K mg C fI cc cda S) : MthSim P w K mg base 65 "Parser" "selection" 2 F_Parser_selection := (sims_Parser_field F 60).2.1
theorem sim_Parser_spread (F : Facts P w K mg C fI cc cda S) : MthSim P w K mg base 65 "Parser" "spread" 2 F_Parser_spread := (sims_Parser_field F 60).2.2
theorem sim_Parser_fragment (F : Facts P w K mg C fI cc cda S) : MthSim P w K mg base 66 "Parser" "fragment" 1 F_Parser_fragment :=
  mth_mk (k := 65) (C := C_Parser_fragment) F.t_Parser_fragment o_Parser_fragment ⟨rfl, rfl⟩ e_Parser_fragment ⟨rfl, rfl⟩ ⟨trivial, ⟨F.c_MOST_DEPTH, trivial⟩, trivial, trivial, trivial, ⟨((sim_Parser_fail F).mono (by decide)), ((sim_Parser_is_next F).mono (by decide)), ((sim_Parser_plain_name F).mono (by decide)), ((sim_Parser_selection F).mono (by decide)), ((sim_Parser_skip F).mono (by decide)), trivial⟩, trivial, trivial⟩
theorem sim_Parser_document (F : Facts P w K mg C fI cc cda S) : MthSim P w K mg base 67 "Parser" "document" 1 F_Parser_document :=
  mth_mk (k := 66) (C := C_Parser_document) F.t_Parser_document o_Parser_document ⟨rfl, rfl⟩ e_Parser_document ⟨rfl, rfl⟩ ⟨trivial, ⟨F.c_MOST_DEPTH, F.c_MOST_FRAGMENTS, trivial⟩, ⟨F.b_len, F.b_tuple, trivial⟩, trivial, clsT F, ⟨((sim_Parser_declarations F).mono (by decide)), ((sim_Parser_fail F).mono (by decide)), ((sim_Parser_fragment F).mono (by decide)), ((sim_Parser_is_next F).mono (by decide)), ((sim_Parser_selection F).mono (by decide)), ((sim_Parser_skip F).mono (by decide)), trivial⟩, ⟨⟨1, by decide, sim_Document_init F⟩, trivial⟩, trivial⟩
theorem sim_parse_document (F : Facts P w K mg C fI cc cda S) : FnSim P w K mg base 68 "parse_document" 1 F_parse_document :=
  sim_mk (k := 67) (C := C_parse_document) F.t_parse_document o_parse_document ⟨rfl, rfl⟩ e_parse_document ⟨rfl, rfl⟩ ⟨trivial, trivial, trivial, trivial, trivial, ⟨((sim_Parser_document F).mono (by decide)), trivial⟩, ⟨⟨5, by decide, sim_Parser_init F⟩, trivial⟩, trivial⟩
theorem sim_l_refill (F : Facts P w K mg C fI cc cda S) : FnSim P w K mg base 1 "_law_refill" 2 F_l_refill :=
  sim_mk (k := 0) (C := C_l_refill) F.t_l_refill o_l_refill ⟨rfl, rfl⟩ e_l_refill ⟨rfl, rfl⟩ ⟨trivial, trivial, ⟨F.b_int, F.b_len, trivial⟩, trivial, trivial, trivial, trivial, trivial⟩
theorem sim_l_draw (F : Facts P w K mg C fI cc cda S) : FnSim P w K mg base 2 "_law_draw" 3 F_l_draw :=
  sim_mk (k := 1) (C := C_l_draw) F.t_l_draw o_l_draw ⟨rfl, rfl⟩ e_l_draw ⟨rfl, rfl⟩ ⟨⟨((sim_l_refill F).mono (by decide)), trivial⟩, trivial, ⟨F.b_int, trivial⟩, trivial, trivial, trivial, trivial, trivial⟩
theorem sim_l_run (F : Facts P w K mg C fI cc cda S) : FnSim P w K mg base 1 "_law_run" 3 F_l_run :=
  sim_mk (k := 0) (C := C_l_run) F.t_l_run o_l_run ⟨rfl, rfl⟩ e_l_run ⟨rfl, rfl⟩ ⟨trivial, trivial, ⟨F.b_len, F.b_range, trivial⟩, trivial, trivial, trivial, trivial, trivial⟩
theorem sim_l_named (F : Facts P w K mg C fI cc cda S) : FnSim P w K mg base 2 "_law_named" 3 F_l_named :=
  sim_mk (k := 1) (C := C_l_named) F.t_l_named o_l_named ⟨rfl, rfl⟩ e_l_named ⟨rfl, rfl⟩ ⟨⟨((sim_l_run F).mono (by decide)), trivial⟩, trivial, ⟨F.b_len, trivial⟩, trivial, trivial, trivial, trivial, trivial⟩
theorem sim_l_word_at (F : Facts P w K mg C fI cc cda S) : FnSim P w K mg base 3 "_law_word_at" 2 F_l_word_at :=
  sim_mk (k := 2) (C := C_l_word_at) F.t_l_word_at o_l_word_at ⟨rfl, rfl⟩ e_l_word_at ⟨rfl, rfl⟩ ⟨⟨((sim_l_named F).mono (by decide)), ((sim_l_run F).mono (by decide)), trivial⟩, trivial, ⟨F.b_int, trivial⟩, trivial, trivial, trivial, trivial, trivial⟩
theorem sim_l_split (F : Facts P w K mg C fI cc cda S) : FnSim P w K mg base 4 "_law_split" 1 F_l_split :=
  sim_mk (k := 3) (C := C_l_split) F.t_l_split o_l_split ⟨rfl, rfl⟩ e_l_split ⟨rfl, rfl⟩ ⟨⟨((sim_l_run F).mono (by decide)), ((sim_l_word_at F).mono (by decide)), trivial⟩, trivial, ⟨F.b_len, F.b_range, trivial⟩, trivial, trivial, trivial, trivial, trivial⟩
theorem sim_l_is (F : Facts P w K mg C fI cc cda S) : FnSim P w K mg base 1 "_law_is" 4 F_l_is :=
  sim_mk (k := 0) (C := C_l_is) F.t_l_is o_l_is ⟨rfl, rfl⟩ e_l_is ⟨rfl, rfl⟩ ⟨trivial, trivial, ⟨F.b_len, trivial⟩, trivial, trivial, trivial, trivial, trivial⟩
theorem sim_l_kind_at (F : Facts P w K mg C fI cc cda S) : FnSim P w K mg base 1 "_law_kind_at" 3 F_l_kind_at :=
  sim_mk (k := 0) (C := C_l_kind_at) F.t_l_kind_at o_l_kind_at ⟨rfl, rfl⟩ e_l_kind_at ⟨rfl, rfl⟩ ⟨trivial, trivial, ⟨F.b_len, trivial⟩, trivial, trivial, trivial, trivial, trivial⟩
theorem sim_l_plain_at (F : Facts P w K mg C fI cc cda S) : FnSim P w K mg base 2 "_law_plain_at" 2 F_l_plain_at :=
  sim_mk (k := 1) (C := C_l_plain_at) F.t_l_plain_at o_l_plain_at ⟨rfl, rfl⟩ e_l_plain_at ⟨rfl, rfl⟩ ⟨⟨((sim_l_kind_at F).mono (by decide)), trivial⟩, trivial, trivial, trivial, trivial, trivial, trivial, trivial⟩
theorem sim_l_constant (F : Facts P w K mg C fI cc cda S) : FnSim P w K mg base 2 "_law_constant" 2 F_l_constant :=
  sim_mk (k := 1) (C := C_l_constant) F.t_l_constant o_l_constant ⟨rfl, rfl⟩ e_l_constant ⟨rfl, rfl⟩ ⟨⟨((sim_l_kind_at F).mono (by decide)), trivial⟩, trivial, trivial, trivial, trivial, trivial, trivial, trivial⟩
theorem sim_l_value_at (F : Facts P w K mg C fI cc cda S) : FnSim P w K mg base 3 "_law_value_at" 2 F_l_value_at :=
  sim_mk (k := 2) (C := C_l_value_at) F.t_l_value_at o_l_value_at ⟨rfl, rfl⟩ e_l_value_at ⟨rfl, rfl⟩ ⟨⟨((sim_l_constant F).mono (by decide)), ((sim_l_kind_at F).mono (by decide)), trivial⟩, trivial, trivial, trivial, trivial, trivial, trivial, trivial⟩
theorem sims_l_type_at (F : Facts P w K mg C fI cc cda S) : ∀ n : Nat, FnSim P w K mg base (2 + n) "_law_type_at" 3 (W_l_type_at n 0)
  | 0 => fn_stuck F.t_l_type_at rfl
  | n + 1 => by
    obtain h0 := sims_l_type_at F n
    exact sim_mk (k := 2 + n) (C := C_l_type_at (W_l_type_at n 0)) F.t_l_type_at o_l_type_at ⟨rfl, rfl⟩ (e_l_type_at _) ⟨rfl, rfl⟩ ⟨⟨((sim_l_is F).mono (by omega)), ((sim_l_plain_at F).mono (by omega)), h0, trivial⟩, trivial, trivial, trivial, trivial, trivial, trivial, trivial⟩
theorem sim_l_type_at (F : Facts P w K mg C fI cc cda S) : FnSim P w K mg base 62 "_law_type_at" 3 F_l_type_at := (sims_l_type_at F 60)
theorem sim_l_declared (F : Facts P w K mg C fI cc cda S) : FnSim P w K mg base 63 "_law_declared" 2 F_l_declared :=
  sim_mk (k := 62) (C := C_l_declared) F.t_l_declared o_l_declared ⟨rfl, rfl⟩ e_l_declared ⟨rfl, rfl⟩ ⟨⟨((sim_l_constant F).mono (by decide)), ((sim_l_is F).mono (by decide)), ((sim_l_kind_at F).mono (by decide)), ((sim_l_type_at F).mono (by decide)), trivial⟩, trivial, ⟨F.b_len, F.b_range, F.b_tuple, trivial⟩, trivial, trivial, trivial, trivial, trivial⟩
theorem sim_l_conditions_at (F : Facts P w K mg C fI cc cda S) : FnSim P w K mg base 4 "_law_conditions_at" 2 F_l_conditions_at :=
  sim_mk (k := 3) (C := C_l_conditions_at) F.t_l_conditions_at o_l_conditions_at ⟨rfl, rfl⟩ e_l_conditions_at ⟨rfl, rfl⟩ ⟨⟨((sim_l_is F).mono (by decide)), ((sim_l_value_at F).mono (by decide)), trivial⟩, trivial, ⟨F.b_len, F.b_range, F.b_tuple, trivial⟩, trivial, trivial, trivial, trivial, trivial⟩
theorem sim_l_arguments_at (F : Facts P w K mg C fI cc cda S) : FnSim P w K mg base 4 "_law_arguments_at" 2 F_l_arguments_at :=
  sim_mk (k := 3) (C := C_l_arguments_at) F.t_l_arguments_at o_l_arguments_at ⟨rfl, rfl⟩ e_l_arguments_at ⟨rfl, rfl⟩ ⟨⟨((sim_l_is F).mono (by decide)), ((sim_l_plain_at F).mono (by decide)), ((sim_l_value_at F).mono (by decide)), trivial⟩, trivial, ⟨F.b_len, F.b_range, F.b_tuple, trivial⟩, trivial, trivial, trivial, trivial, trivial⟩
theorem sims_l_field_at (F : Facts P w K mg C fI cc cda S) : ∀ n : Nat, FnSim P w K mg base (4 + n) "_law_field_at" 3 (W_l_field_at n 0) ∧ FnSim P w K mg base (4 + n) "_law_selection_at" 3 (W_l_field_at n 1) ∧ FnSim P w K mg base (4 + n) "_law_spread_at" 3 (W_l_field_at n 2)
  | 0 => ⟨fn_stuck F.t_l_field_at rfl, fn_stuck F.t_l_selection_at rfl, fn_stuck F.t_l_spread_at rfl⟩
  | n + 1 => by
    obtain ⟨h0, h1, h2⟩ := sims_l_field_at F n
    exact ⟨sim_mk (k := 4 + n) (C := C_l_field_at (W_l_field_at n 0) (W_l_field_at n 1) (W_l_field_at n 2)) F.t_l_field_at o_l_field_at ⟨rfl, rfl⟩ (e_l_field_at _ _ _) ⟨rfl, rfl⟩ ⟨⟨((sim_l_arguments_at F).mono (by omega)), ((sim_l_conditions_at F).mono (by omega)), ((sim_l_is F).mono (by omega)), ((sim_l_kind_at F).mono (by omega)), h1, trivial⟩, trivial, trivial, trivial, trivial, trivial, trivial, trivial⟩,
      sim_mk (k := 4 + n) (C := C_l_selection_at (W_l_field_at n 0) (W_l_field_at n 1) (W_l_field_at n 2)) F.t_l_selection_at o_l_selection_at ⟨rfl, rfl⟩ (e_l_selection_at _ _ _) ⟨rfl, rfl⟩ ⟨⟨h0, ((sim_l_is F).mono (by omega)), h2, trivial⟩, trivial, ⟨F.b_len, F.b_range, F.b_tuple, trivial⟩, trivial, trivial, trivial, trivial, trivial⟩,
      sim_mk (k := 4 + n) (C := C_l_spread_at (W_l_field_at n 0) (W_l_field_at n 1) (W_l_field_at n 2)) F.t_l_spread_at o_l_spread_at ⟨rfl, rfl⟩ (e_l_spread_at _ _ _) ⟨rfl, rfl⟩ ⟨⟨((sim_l_conditions_at F).mono (by omega)), ((sim_l_is F).mono (by omega)), ((sim_l_kind_at F).mono (by omega)), ((sim_l_plain_at F).mono (by omega)), h1, trivial⟩, trivial, trivial, trivial, trivial, trivial, trivial, trivial⟩⟩
theorem sim_l_field_at (F : Facts P w K mg C fI cc cda S) : FnSim P w K mg base 64 "_law_field_at" 3 F_l_field_at := (sims_l_field_at F 60).1
theorem sim_l_selection_at (F : Facts P w K mg C fI cc cda S) : FnSim P w K mg base 64 "_law_selection_at" 3 F_l_selection_at := (sims_l_field_at F 60).2.1
theorem sim_l_spread_at (F : Facts P w K mg C fI cc cda S) : FnSim P w K mg base 64 "_law_spread_at" 3 F_l_spread_at := (sims_l_field_at F 60).2.2
theorem sim_l_fragment_at (F : Facts P w K mg C fI cc cda S) : FnSim P w K mg base 65 "_law_fragment_at" 3 F_l_fragment_at :=
  sim_mk (k := 64) (C := C_l_fragment_at) F.t_l_fragment_at o_l_fragment_at ⟨rfl, rfl⟩ e_l_fragment_at ⟨rfl, rfl⟩ ⟨⟨((sim_l_is F).mono (by decide)), ((sim_l_plain_at F).mono (by decide)), ((sim_l_selection_at F).mono (by decide)), trivial⟩, trivial, trivial, trivial, trivial, trivial, trivial, trivial⟩
theorem sim_l_document_at (F : Facts P w K mg C fI cc cda S) : FnSim P w K mg base 66 "_law_document_at" 1 F_l_document_at :=
  sim_mk (k := 65) (C := C_l_document_at) F.t_l_document_at o_l_document_at ⟨rfl, rfl⟩ e_l_document_at ⟨rfl, rfl⟩ ⟨⟨((sim_l_declared F).mono (by decide)), ((sim_l_fragment_at F).mono (by decide)), ((sim_l_is F).mono (by decide)), ((sim_l_selection_at F).mono (by decide)), trivial⟩, trivial, ⟨F.b_len, F.b_range, F.b_tuple, trivial⟩, trivial, trivial, trivial, trivial, trivial⟩
theorem sim_l_expected (F : Facts P w K mg C fI cc cda S) : FnSim P w K mg base 67 "_law_expected" 1 F_l_expected :=
  sim_mk (k := 66) (C := C_l_expected) F.t_l_expected o_l_expected ⟨rfl, rfl⟩ e_l_expected ⟨rfl, rfl⟩ ⟨⟨((sim_l_document_at F).mono (by decide)), ((sim_l_split F).mono (by decide)), trivial⟩, trivial, ⟨F.b_len, trivial⟩, trivial, trivial, trivial, trivial, trivial⟩
theorem sim_l_told (F : Facts P w K mg C fI cc cda S) : FnSim P w K mg base 69 "_law_told" 1 F_l_told := by
  refine sim_try (k := 68) (i := 2) (en := "e") (x := "InvalidDocument") (C := C_l_told) F.t_l_told o_l_told ⟨rfl, rfl⟩ (by rfl) e_l_told ⟨rfl, rfl⟩ ⟨⟨((sim_parse_document F).mono (by decide)), trivial⟩, trivial, trivial, trivial, clsT F, trivial, trivial, trivial⟩ rfl (by decide +kernel) (by decide +kernel) (by decide) F.x_InvalidDocument.gC F.xm_InvalidDocument (fun X e1 e2 e3 e4 e5 hsc hN hr => ?_)
  subst e1 e2 e3 e4 e5
  have gl : ∀ y, (defScope s_l_told).names.lookup y = some .globalImplicit → Gl X y := fun y z => by show X.env.scope.names.lookup y = _; rw [hsc]; exact z
  have T : SuiT X 2 C "e" := ⟨by rw [hN]; rfl, by rw [hsc]; decide +kernel, by decide, by decide, F.xe_InvalidDocument⟩
  exact su_B T F.x_InvalidDocument.noN (by rfl)
theorem sim_l_start (F : Facts P w K mg C fI cc cda S) : FnSim P w K mg base 3 "_law_start" 2 F_l_start :=
  sim_mk (k := 2) (C := C_l_start) F.t_l_start o_l_start ⟨rfl, rfl⟩ e_l_start ⟨rfl, rfl⟩ ⟨⟨((sim_l_draw F).mono (by decide)), trivial⟩, trivial, trivial, trivial, trivial, trivial, trivial, trivial⟩
theorem sim_law (F : Facts P w K mg C fI cc cda S) {f : Addr} {fd : FuncData} (Fn : Fun K "law" "law" s_law f fd) : FnOk P w K mg base (L2N.CX P w) 70 f fd P_law (spSim K mg 1 F_law) :=
  have A : AllT P w K mg base 69 C_law := ⟨⟨((sim_l_draw F).mono (by decide)), ((sim_l_expected F).mono (by decide)), ((sim_l_start F).mono (by decide)), ((sim_l_told F).mono (by decide)), trivial⟩, trivial, ⟨F.b_len, F.b_range, trivial⟩, trivial, trivial, trivial, trivial, trivial⟩
  fn_sim Fn o_law ⟨rfl, rfl⟩ e_law A.mdl A.x.get
end
theorem all_mk {P : Program} {w : World} {K : PySem.W.Frag} {h : Heap} {mg : Str → Option Value} {fa : Addr} (X : K.In h) (G : h.Ns mainGlobals mg) (hfa : mg "law" = some (.ref fa))
    {Ck0 : Addr}
    {Ck1 : Addr}
    {f0 : Addr} {od0 an0 : Option Addr} {sl0 : Array (Option Value)} {oc0 kV0 dc0 pm0 cd0 ct0 : Value}
    {f1 : Addr} {od1 an1 : Option Addr} {sl1 : Array (Option Value)} {oc1 kV1 dc1 pm1 cd1 ct1 : Value}
    {f2 : Addr} {od2 an2 : Option Addr} {sl2 : Array (Option Value)} {oc2 kV2 dc2 pm2 cd2 ct2 : Value}
    {f3 : Addr} {od3 an3 : Option Addr} {sl3 : Array (Option Value)} {oc3 kV3 dc3 pm3 cd3 ct3 : Value}
    {f4 : Addr} {od4 an4 : Option Addr} {sl4 : Array (Option Value)} {oc4 kV4 dc4 pm4 cd4 ct4 : Value}
    {f5 : Addr} {od5 an5 : Option Addr} {sl5 : Array (Option Value)} {oc5 kV5 dc5 pm5 cd5 ct5 : Value}
    {f6 : Addr} {od6 an6 : Option Addr} {sl6 : Array (Option Value)} {oc6 kV6 dc6 pm6 cd6 ct6 : Value}
    {f7 : Addr} {od7 an7 : Option Addr} {sl7 : Array (Option Value)} {oc7 kV7 dc7 pm7 cd7 ct7 : Value}
    {f8 : Addr} {od8 an8 : Option Addr} {sl8 : Array (Option Value)} {oc8 kV8 dc8 pm8 cd8 ct8 : Value}
    {f9 : Addr} {od9 an9 : Option Addr} {sl9 : Array (Option Value)} {oc9 kV9 dc9 pm9 cd9 ct9 : Value}
    {f10 : Addr} {od10 an10 : Option Addr} {sl10 : Array (Option Value)} {oc10 kV10 dc10 pm10 cd10 ct10 : Value}
    {f11 : Addr} {od11 an11 : Option Addr} {sl11 : Array (Option Value)} {oc11 kV11 dc11 pm11 cd11 ct11 : Value}
    {f12 : Addr} {od12 an12 : Option Addr} {sl12 : Array (Option Value)} {oc12 kV12 dc12 pm12 cd12 ct12 : Value}
    {f13 : Addr} {od13 an13 : Option Addr} {sl13 : Array (Option Value)} {oc13 kV13 dc13 pm13 cd13 ct13 : Value}
    {f14 : Addr} {od14 an14 : Option Addr} {sl14 : Array (Option Value)} {oc14 kV14 dc14 pm14 cd14 ct14 : Value}
    {f15 : Addr} {od15 an15 : Option Addr} {sl15 : Array (Option Value)} {oc15 kV15 dc15 pm15 cd15 ct15 : Value}
    {f16 : Addr} {od16 an16 : Option Addr} {sl16 : Array (Option Value)} {oc16 kV16 dc16 pm16 cd16 ct16 : Value}
    {f17 : Addr} {od17 an17 : Option Addr} {sl17 : Array (Option Value)} {oc17 kV17 dc17 pm17 cd17 ct17 : Value}
    {f18 : Addr} {od18 an18 : Option Addr} {sl18 : Array (Option Value)} {oc18 kV18 dc18 pm18 cd18 ct18 : Value}
    {f19 : Addr} {od19 an19 : Option Addr} {sl19 : Array (Option Value)} {oc19 kV19 dc19 pm19 cd19 ct19 : Value}
    {f20 : Addr} {od20 an20 : Option Addr} {sl20 : Array (Option Value)} {oc20 kV20 dc20 pm20 cd20 ct20 : Value}
    {f21 : Addr} {od21 an21 : Option Addr} {sl21 : Array (Option Value)} {oc21 kV21 dc21 pm21 cd21 ct21 : Value}
    {f22 : Addr} {od22 an22 : Option Addr} {sl22 : Array (Option Value)} {oc22 kV22 dc22 pm22 cd22 ct22 : Value}
    {f23 : Addr} {od23 an23 : Option Addr} {sl23 : Array (Option Value)} {oc23 kV23 dc23 pm23 cd23 ct23 : Value}
    {f24 : Addr} {od24 an24 : Option Addr} {sl24 : Array (Option Value)} {oc24 kV24 dc24 pm24 cd24 ct24 : Value}
    {f25 : Addr} {od25 an25 : Option Addr} {sl25 : Array (Option Value)} {oc25 kV25 dc25 pm25 cd25 ct25 : Value}
    {f26 : Addr} {od26 an26 : Option Addr} {sl26 : Array (Option Value)} {oc26 kV26 dc26 pm26 cd26 ct26 : Value}
    {f27 : Addr} {od27 an27 : Option Addr} {sl27 : Array (Option Value)} {oc27 kV27 dc27 pm27 cd27 ct27 : Value}
    {f28 : Addr} {od28 an28 : Option Addr} {sl28 : Array (Option Value)} {oc28 kV28 dc28 pm28 cd28 ct28 : Value}
    {f29 : Addr} {od29 an29 : Option Addr} {sl29 : Array (Option Value)} {oc29 kV29 dc29 pm29 cd29 ct29 : Value}
    {f30 : Addr} {od30 an30 : Option Addr} {sl30 : Array (Option Value)} {oc30 kV30 dc30 pm30 cd30 ct30 : Value}
    {f31 : Addr} {od31 an31 : Option Addr} {sl31 : Array (Option Value)} {oc31 kV31 dc31 pm31 cd31 ct31 : Value}
    {f32 : Addr} {od32 an32 : Option Addr} {sl32 : Array (Option Value)} {oc32 kV32 dc32 pm32 cd32 ct32 : Value}
    {f33 : Addr} {od33 an33 : Option Addr} {sl33 : Array (Option Value)} {oc33 kV33 dc33 pm33 cd33 ct33 : Value}
    {f34 : Addr} {od34 an34 : Option Addr} {sl34 : Array (Option Value)} {oc34 kV34 dc34 pm34 cd34 ct34 : Value}
    {f35 : Addr} {od35 an35 : Option Addr} {sl35 : Array (Option Value)} {oc35 kV35 dc35 pm35 cd35 ct35 : Value}
    {f36 : Addr} {od36 an36 : Option Addr} {sl36 : Array (Option Value)} {oc36 kV36 dc36 pm36 cd36 ct36 : Value}
    {f37 : Addr} {od37 an37 : Option Addr} {sl37 : Array (Option Value)} {oc37 kV37 dc37 pm37 cd37 ct37 : Value}
    {f38 : Addr} {od38 an38 : Option Addr} {sl38 : Array (Option Value)} {oc38 kV38 dc38 pm38 cd38 ct38 : Value}
    {f39 : Addr} {od39 an39 : Option Addr} {sl39 : Array (Option Value)} {oc39 kV39 dc39 pm39 cd39 ct39 : Value}
    {f40 : Addr} {od40 an40 : Option Addr} {sl40 : Array (Option Value)} {oc40 kV40 dc40 pm40 cd40 ct40 : Value}
    {f41 : Addr} {od41 an41 : Option Addr} {sl41 : Array (Option Value)} {oc41 kV41 dc41 pm41 cd41 ct41 : Value}
    {f42 : Addr} {od42 an42 : Option Addr} {sl42 : Array (Option Value)} {oc42 kV42 dc42 pm42 cd42 ct42 : Value}
    {f43 : Addr} {od43 an43 : Option Addr} {sl43 : Array (Option Value)} {oc43 kV43 dc43 pm43 cd43 ct43 : Value}
    {f44 : Addr} {od44 an44 : Option Addr} {sl44 : Array (Option Value)} {oc44 kV44 dc44 pm44 cd44 ct44 : Value}
    {f45 : Addr} {od45 an45 : Option Addr} {sl45 : Array (Option Value)} {oc45 kV45 dc45 pm45 cd45 ct45 : Value}
    {f46 : Addr} {od46 an46 : Option Addr} {sl46 : Array (Option Value)} {oc46 kV46 dc46 pm46 cd46 ct46 : Value}
    {f47 : Addr} {od47 an47 : Option Addr} {sl47 : Array (Option Value)} {oc47 kV47 dc47 pm47 cd47 ct47 : Value}
    {f48 : Addr} {od48 an48 : Option Addr} {sl48 : Array (Option Value)} {oc48 kV48 dc48 pm48 cd48 ct48 : Value}
    {f49 : Addr} {od49 an49 : Option Addr} {sl49 : Array (Option Value)} {oc49 kV49 dc49 pm49 cd49 ct49 : Value}
    {f50 : Addr} {od50 an50 : Option Addr} {sl50 : Array (Option Value)} {oc50 kV50 dc50 pm50 cd50 ct50 : Value}
    {tc0 : Tok}
    {tc1 : Tok}
    {tc2 : Tok}
    {tc3 : Tok}
    {tc4 : Tok}
    {tc5 : Tok}
    {tc6 : Tok}
    {tc7 : Tok}
    {tc8 : Tok}
    {tc9 : Tok}
    {tc10 : Tok}
    {kd0 : Addr} {kn0 : Nat}
    {kt0_0 : Tok} {kh0_0 : Int}
    {kr0_0 : Addr} {ko0_0 : Option Addr} {km0_0 : Nat} {ks0_0 : Array (Option Value)}
    {kv0_0_0 : Tok}
    {kt0_1 : Tok} {kh0_1 : Int}
    {kr0_1 : Addr} {ko0_1 : Option Addr} {km0_1 : Nat} {ks0_1 : Array (Option Value)}
    {kv0_1_0 : Tok}
    {kt0_2 : Tok} {kh0_2 : Int}
    {kr0_2 : Addr} {ko0_2 : Option Addr} {km0_2 : Nat} {ks0_2 : Array (Option Value)}
    {kv0_2_0 : Tok}
    {C fI cc cda S N : Addr} {nm q iq ifl : Str} {bs bm sub : List Value} {sn : List Str} {ab : Bool} {col : Option Bool} {dd cld cdd xod xan : Option Addr} {m0 m1 m2 m3 m5 : Option Value} {xoc xdc xpm xct cl ccl : Value} {xsl csl ccs : Array (Option Value)} {xsc : Scope} {cvs : Array Value} {p1 p2 q1 q2 q3 q4 q5 q6 q7 q8 q9 q10 : Pos} {itf : Tok}
    (ca0 : PySem.W.nsIn K mainGlobals "Document" = some (some (.ref Ck0)))
    (cp0 : PySem.W.plainGet K Ck0 Str.empty = true)
    (ch0 : PySem.W.hasDictIn K Ck0 = true)
    (co0 : PySem.W.plainOver K Ck0 = true)
    (cs0 : PySem.W.findIn K (.ref Ck0) "__setattr__" = some (some (.builtin "object.__setattr__")))
    (cm0 : PySem.W.makesIn K Ck0 = true)
    (ck0 : PySem.W.keepIn K (.ref Ck0) = true)
    (cn0_0 : PySem.W.findIn K (.ref Ck0) "fragments" = some none)
    (cn0_1 : PySem.W.findIn K (.ref Ck0) "selection" = some none)
    (cn0_2 : PySem.W.findIn K (.ref Ck0) "variables" = some none)
    (ca1 : PySem.W.nsIn K mainGlobals "Parser" = some (some (.ref Ck1)))
    (cp1 : PySem.W.plainGet K Ck1 Str.empty = true)
    (ch1 : PySem.W.hasDictIn K Ck1 = true)
    (co1 : PySem.W.plainOver K Ck1 = true)
    (cs1 : PySem.W.findIn K (.ref Ck1) "__setattr__" = some (some (.builtin "object.__setattr__")))
    (cm1 : PySem.W.makesIn K Ck1 = true)
    (ck1 : PySem.W.keepIn K (.ref Ck1) = true)
    (cn1_0 : PySem.W.findIn K (.ref Ck1) "at" = some none)
    (cn1_1 : PySem.W.findIn K (.ref Ck1) "end" = some none)
    (cn1_2 : PySem.W.findIn K (.ref Ck1) "words" = some none)
    (a0 : PySem.W.nsIn K mainGlobals "run_end" = some (some (.ref f0)))
    (l0 : K.lookup f0 = some ⟨oc0, od0, .func (PySem.W.fnOf "run_end" "run_end" (defArgs s_run_end) (defBody s_run_end) (defScope s_run_end) .none kV0 dc0 pm0 an0 cd0 ct0), sl0⟩)
    (c0 : PySem.W.codeIn K cd0 "run_end" = true)
    (k0 : PySem.W.keepIn K (.ref f0) = true)
    (a1 : PySem.W.nsIn K mainGlobals "read_name" = some (some (.ref f1)))
    (l1 : K.lookup f1 = some ⟨oc1, od1, .func (PySem.W.fnOf "read_name" "read_name" (defArgs s_read_name) (defBody s_read_name) (defScope s_read_name) .none kV1 dc1 pm1 an1 cd1 ct1), sl1⟩)
    (c1 : PySem.W.codeIn K cd1 "read_name" = true)
    (k1 : PySem.W.keepIn K (.ref f1) = true)
    (a2 : PySem.W.nsIn K mainGlobals "read_number" = some (some (.ref f2)))
    (l2 : K.lookup f2 = some ⟨oc2, od2, .func (PySem.W.fnOf "read_number" "read_number" (defArgs s_read_number) (defBody s_read_number) (defScope s_read_number) .none kV2 dc2 pm2 an2 cd2 ct2), sl2⟩)
    (c2 : PySem.W.codeIn K cd2 "read_number" = true)
    (k2 : PySem.W.keepIn K (.ref f2) = true)
    (a3 : PySem.W.nsIn K mainGlobals "read_string" = some (some (.ref f3)))
    (l3 : K.lookup f3 = some ⟨oc3, od3, .func (PySem.W.fnOf "read_string" "read_string" (defArgs s_read_string) (defBody s_read_string) (defScope s_read_string) .none kV3 dc3 pm3 an3 cd3 ct3), sl3⟩)
    (c3 : PySem.W.codeIn K cd3 "read_string" = true)
    (k3 : PySem.W.keepIn K (.ref f3) = true)
    (a4 : PySem.W.nsIn K mainGlobals "read_word" = some (some (.ref f4)))
    (l4 : K.lookup f4 = some ⟨oc4, od4, .func (PySem.W.fnOf "read_word" "read_word" (defArgs s_read_word) (defBody s_read_word) (defScope s_read_word) .none kV4 dc4 pm4 an4 cd4 ct4), sl4⟩)
    (c4 : PySem.W.codeIn K cd4 "read_word" = true)
    (k4 : PySem.W.keepIn K (.ref f4) = true)
    (a5 : PySem.W.nsIn K mainGlobals "split_words" = some (some (.ref f5)))
    (l5 : K.lookup f5 = some ⟨oc5, od5, .func (PySem.W.fnOf "split_words" "split_words" (defArgs s_split_words) (defBody s_split_words) (defScope s_split_words) .none kV5 dc5 pm5 an5 cd5 ct5), sl5⟩)
    (c5 : PySem.W.codeIn K cd5 "split_words" = true)
    (k5 : PySem.W.keepIn K (.ref f5) = true)
    (a6 : PySem.W.nsIn K mainGlobals "parse_document" = some (some (.ref f6)))
    (l6 : K.lookup f6 = some ⟨oc6, od6, .func (PySem.W.fnOf "parse_document" "parse_document" (defArgs s_parse_document) (defBody s_parse_document) (defScope s_parse_document) .none kV6 dc6 pm6 an6 cd6 ct6), sl6⟩)
    (c6 : PySem.W.codeIn K cd6 "parse_document" = true)
    (k6 : PySem.W.keepIn K (.ref f6) = true)
    (a7 : PySem.W.nsIn K mainGlobals "_law_refill" = some (some (.ref f7)))
    (l7 : K.lookup f7 = some ⟨oc7, od7, .func (PySem.W.fnOf "_law_refill" "_law_refill" (defArgs s_l_refill) (defBody s_l_refill) (defScope s_l_refill) .none kV7 dc7 pm7 an7 cd7 ct7), sl7⟩)
    (c7 : PySem.W.codeIn K cd7 "_law_refill" = true)
    (k7 : PySem.W.keepIn K (.ref f7) = true)
    (a8 : PySem.W.nsIn K mainGlobals "_law_draw" = some (some (.ref f8)))
    (l8 : K.lookup f8 = some ⟨oc8, od8, .func (PySem.W.fnOf "_law_draw" "_law_draw" (defArgs s_l_draw) (defBody s_l_draw) (defScope s_l_draw) .none kV8 dc8 pm8 an8 cd8 ct8), sl8⟩)
    (c8 : PySem.W.codeIn K cd8 "_law_draw" = true)
    (k8 : PySem.W.keepIn K (.ref f8) = true)
    (a9 : PySem.W.nsIn K mainGlobals "_law_run" = some (some (.ref f9)))
    (l9 : K.lookup f9 = some ⟨oc9, od9, .func (PySem.W.fnOf "_law_run" "_law_run" (defArgs s_l_run) (defBody s_l_run) (defScope s_l_run) .none kV9 dc9 pm9 an9 cd9 ct9), sl9⟩)
    (c9 : PySem.W.codeIn K cd9 "_law_run" = true)
    (k9 : PySem.W.keepIn K (.ref f9) = true)
    (a10 : PySem.W.nsIn K mainGlobals "_law_named" = some (some (.ref f10)))
    (l10 : K.lookup f10 = some ⟨oc10, od10, .func (PySem.W.fnOf "_law_named" "_law_named" (defArgs s_l_named) (defBody s_l_named) (defScope s_l_named) .none kV10 dc10 pm10 an10 cd10 ct10), sl10⟩)
    (c10 : PySem.W.codeIn K cd10 "_law_named" = true)
    (k10 : PySem.W.keepIn K (.ref f10) = true)
    (a11 : PySem.W.nsIn K mainGlobals "_law_word_at" = some (some (.ref f11)))
    (l11 : K.lookup f11 = some ⟨oc11, od11, .func (PySem.W.fnOf "_law_word_at" "_law_word_at" (defArgs s_l_word_at) (defBody s_l_word_at) (defScope s_l_word_at) .none kV11 dc11 pm11 an11 cd11 ct11), sl11⟩)
    (c11 : PySem.W.codeIn K cd11 "_law_word_at" = true)
    (k11 : PySem.W.keepIn K (.ref f11) = true)
    (a12 : PySem.W.nsIn K mainGlobals "_law_split" = some (some (.ref f12)))
    (l12 : K.lookup f12 = some ⟨oc12, od12, .func (PySem.W.fnOf "_law_split" "_law_split" (defArgs s_l_split) (defBody s_l_split) (defScope s_l_split) .none kV12 dc12 pm12 an12 cd12 ct12), sl12⟩)
    (c12 : PySem.W.codeIn K cd12 "_law_split" = true)
    (k12 : PySem.W.keepIn K (.ref f12) = true)
    (a13 : PySem.W.nsIn K mainGlobals "_law_is" = some (some (.ref f13)))
    (l13 : K.lookup f13 = some ⟨oc13, od13, .func (PySem.W.fnOf "_law_is" "_law_is" (defArgs s_l_is) (defBody s_l_is) (defScope s_l_is) .none kV13 dc13 pm13 an13 cd13 ct13), sl13⟩)
    (c13 : PySem.W.codeIn K cd13 "_law_is" = true)
    (k13 : PySem.W.keepIn K (.ref f13) = true)
    (a14 : PySem.W.nsIn K mainGlobals "_law_kind_at" = some (some (.ref f14)))
    (l14 : K.lookup f14 = some ⟨oc14, od14, .func (PySem.W.fnOf "_law_kind_at" "_law_kind_at" (defArgs s_l_kind_at) (defBody s_l_kind_at) (defScope s_l_kind_at) .none kV14 dc14 pm14 an14 cd14 ct14), sl14⟩)
    (c14 : PySem.W.codeIn K cd14 "_law_kind_at" = true)
    (k14 : PySem.W.keepIn K (.ref f14) = true)
    (a15 : PySem.W.nsIn K mainGlobals "_law_plain_at" = some (some (.ref f15)))
    (l15 : K.lookup f15 = some ⟨oc15, od15, .func (PySem.W.fnOf "_law_plain_at" "_law_plain_at" (defArgs s_l_plain_at) (defBody s_l_plain_at) (defScope s_l_plain_at) .none kV15 dc15 pm15 an15 cd15 ct15), sl15⟩)
    (c15 : PySem.W.codeIn K cd15 "_law_plain_at" = true)
    (k15 : PySem.W.keepIn K (.ref f15) = true)
    (a16 : PySem.W.nsIn K mainGlobals "_law_constant" = some (some (.ref f16)))
    (l16 : K.lookup f16 = some ⟨oc16, od16, .func (PySem.W.fnOf "_law_constant" "_law_constant" (defArgs s_l_constant) (defBody s_l_constant) (defScope s_l_constant) .none kV16 dc16 pm16 an16 cd16 ct16), sl16⟩)
    (c16 : PySem.W.codeIn K cd16 "_law_constant" = true)
    (k16 : PySem.W.keepIn K (.ref f16) = true)
    (a17 : PySem.W.nsIn K mainGlobals "_law_value_at" = some (some (.ref f17)))
    (l17 : K.lookup f17 = some ⟨oc17, od17, .func (PySem.W.fnOf "_law_value_at" "_law_value_at" (defArgs s_l_value_at) (defBody s_l_value_at) (defScope s_l_value_at) .none kV17 dc17 pm17 an17 cd17 ct17), sl17⟩)
    (c17 : PySem.W.codeIn K cd17 "_law_value_at" = true)
    (k17 : PySem.W.keepIn K (.ref f17) = true)
    (a18 : PySem.W.nsIn K mainGlobals "_law_type_at" = some (some (.ref f18)))
    (l18 : K.lookup f18 = some ⟨oc18, od18, .func (PySem.W.fnOf "_law_type_at" "_law_type_at" (defArgs s_l_type_at) (defBody s_l_type_at) (defScope s_l_type_at) .none kV18 dc18 pm18 an18 cd18 ct18), sl18⟩)
    (c18 : PySem.W.codeIn K cd18 "_law_type_at" = true)
    (k18 : PySem.W.keepIn K (.ref f18) = true)
    (a19 : PySem.W.nsIn K mainGlobals "_law_declared" = some (some (.ref f19)))
    (l19 : K.lookup f19 = some ⟨oc19, od19, .func (PySem.W.fnOf "_law_declared" "_law_declared" (defArgs s_l_declared) (defBody s_l_declared) (defScope s_l_declared) .none kV19 dc19 pm19 an19 cd19 ct19), sl19⟩)
    (c19 : PySem.W.codeIn K cd19 "_law_declared" = true)
    (k19 : PySem.W.keepIn K (.ref f19) = true)
    (a20 : PySem.W.nsIn K mainGlobals "_law_conditions_at" = some (some (.ref f20)))
    (l20 : K.lookup f20 = some ⟨oc20, od20, .func (PySem.W.fnOf "_law_conditions_at" "_law_conditions_at" (defArgs s_l_conditions_at) (defBody s_l_conditions_at) (defScope s_l_conditions_at) .none kV20 dc20 pm20 an20 cd20 ct20), sl20⟩)
    (c20 : PySem.W.codeIn K cd20 "_law_conditions_at" = true)
    (k20 : PySem.W.keepIn K (.ref f20) = true)
    (a21 : PySem.W.nsIn K mainGlobals "_law_arguments_at" = some (some (.ref f21)))
    (l21 : K.lookup f21 = some ⟨oc21, od21, .func (PySem.W.fnOf "_law_arguments_at" "_law_arguments_at" (defArgs s_l_arguments_at) (defBody s_l_arguments_at) (defScope s_l_arguments_at) .none kV21 dc21 pm21 an21 cd21 ct21), sl21⟩)
    (c21 : PySem.W.codeIn K cd21 "_law_arguments_at" = true)
    (k21 : PySem.W.keepIn K (.ref f21) = true)
    (a22 : PySem.W.nsIn K mainGlobals "_law_field_at" = some (some (.ref f22)))
    (l22 : K.lookup f22 = some ⟨oc22, od22, .func (PySem.W.fnOf "_law_field_at" "_law_field_at" (defArgs s_l_field_at) (defBody s_l_field_at) (defScope s_l_field_at) .none kV22 dc22 pm22 an22 cd22 ct22), sl22⟩)
    (c22 : PySem.W.codeIn K cd22 "_law_field_at" = true)
    (k22 : PySem.W.keepIn K (.ref f22) = true)
    (a23 : PySem.W.nsIn K mainGlobals "_law_spread_at" = some (some (.ref f23)))
    (l23 : K.lookup f23 = some ⟨oc23, od23, .func (PySem.W.fnOf "_law_spread_at" "_law_spread_at" (defArgs s_l_spread_at) (defBody s_l_spread_at) (defScope s_l_spread_at) .none kV23 dc23 pm23 an23 cd23 ct23), sl23⟩)
    (c23 : PySem.W.codeIn K cd23 "_law_spread_at" = true)
    (k23 : PySem.W.keepIn K (.ref f23) = true)
    (a24 : PySem.W.nsIn K mainGlobals "_law_selection_at" = some (some (.ref f24)))
    (l24 : K.lookup f24 = some ⟨oc24, od24, .func (PySem.W.fnOf "_law_selection_at" "_law_selection_at" (defArgs s_l_selection_at) (defBody s_l_selection_at) (defScope s_l_selection_at) .none kV24 dc24 pm24 an24 cd24 ct24), sl24⟩)
    (c24 : PySem.W.codeIn K cd24 "_law_selection_at" = true)
    (k24 : PySem.W.keepIn K (.ref f24) = true)
    (a25 : PySem.W.nsIn K mainGlobals "_law_fragment_at" = some (some (.ref f25)))
    (l25 : K.lookup f25 = some ⟨oc25, od25, .func (PySem.W.fnOf "_law_fragment_at" "_law_fragment_at" (defArgs s_l_fragment_at) (defBody s_l_fragment_at) (defScope s_l_fragment_at) .none kV25 dc25 pm25 an25 cd25 ct25), sl25⟩)
    (c25 : PySem.W.codeIn K cd25 "_law_fragment_at" = true)
    (k25 : PySem.W.keepIn K (.ref f25) = true)
    (a26 : PySem.W.nsIn K mainGlobals "_law_document_at" = some (some (.ref f26)))
    (l26 : K.lookup f26 = some ⟨oc26, od26, .func (PySem.W.fnOf "_law_document_at" "_law_document_at" (defArgs s_l_document_at) (defBody s_l_document_at) (defScope s_l_document_at) .none kV26 dc26 pm26 an26 cd26 ct26), sl26⟩)
    (c26 : PySem.W.codeIn K cd26 "_law_document_at" = true)
    (k26 : PySem.W.keepIn K (.ref f26) = true)
    (a27 : PySem.W.nsIn K mainGlobals "_law_expected" = some (some (.ref f27)))
    (l27 : K.lookup f27 = some ⟨oc27, od27, .func (PySem.W.fnOf "_law_expected" "_law_expected" (defArgs s_l_expected) (defBody s_l_expected) (defScope s_l_expected) .none kV27 dc27 pm27 an27 cd27 ct27), sl27⟩)
    (c27 : PySem.W.codeIn K cd27 "_law_expected" = true)
    (k27 : PySem.W.keepIn K (.ref f27) = true)
    (a28 : PySem.W.nsIn K mainGlobals "_law_told" = some (some (.ref f28)))
    (l28 : K.lookup f28 = some ⟨oc28, od28, .func (PySem.W.fnOf "_law_told" "_law_told" (defArgs s_l_told) (defBody s_l_told) (defScope s_l_told) .none kV28 dc28 pm28 an28 cd28 ct28), sl28⟩)
    (c28 : PySem.W.codeIn K cd28 "_law_told" = true)
    (k28 : PySem.W.keepIn K (.ref f28) = true)
    (a29 : PySem.W.nsIn K mainGlobals "_law_start" = some (some (.ref f29)))
    (l29 : K.lookup f29 = some ⟨oc29, od29, .func (PySem.W.fnOf "_law_start" "_law_start" (defArgs s_l_start) (defBody s_l_start) (defScope s_l_start) .none kV29 dc29 pm29 an29 cd29 ct29), sl29⟩)
    (c29 : PySem.W.codeIn K cd29 "_law_start" = true)
    (k29 : PySem.W.keepIn K (.ref f29) = true)
    (a30 : PySem.W.nsIn K mainGlobals "law" = some (some (.ref f30)))
    (l30 : K.lookup f30 = some ⟨oc30, od30, .func (PySem.W.fnOf "law" "law" (defArgs s_law) (defBody s_law) (defScope s_law) .none kV30 dc30 pm30 an30 cd30 ct30), sl30⟩)
    (c30 : PySem.W.codeIn K cd30 "law" = true)
    (k30 : PySem.W.keepIn K (.ref f30) = true)
    (a31 : PySem.W.findIn K (.ref Ck0) "__init__" = some (some (.ref f31)))
    (l31 : K.lookup f31 = some ⟨oc31, od31, .func (PySem.W.fnOf "__init__" "Document.__init__" (defArgs s_Document_init) (defBody s_Document_init) (defScope s_Document_init) .none kV31 dc31 pm31 an31 cd31 ct31), sl31⟩)
    (c31 : PySem.W.codeIn K cd31 "Document.__init__" = true)
    (k31 : PySem.W.keepIn K (.ref f31) = true)
    (n31 : PySem.W.isFn K (.ref f31) = true)
    (a32 : PySem.W.findIn K (.ref Ck1) "__init__" = some (some (.ref f32)))
    (l32 : K.lookup f32 = some ⟨oc32, od32, .func (PySem.W.fnOf "__init__" "Parser.__init__" (defArgs s_Parser_init) (defBody s_Parser_init) (defScope s_Parser_init) .none kV32 dc32 pm32 an32 cd32 ct32), sl32⟩)
    (c32 : PySem.W.codeIn K cd32 "Parser.__init__" = true)
    (k32 : PySem.W.keepIn K (.ref f32) = true)
    (n32 : PySem.W.isFn K (.ref f32) = true)
    (a33 : PySem.W.findIn K (.ref Ck1) "fail" = some (some (.ref f33)))
    (l33 : K.lookup f33 = some ⟨oc33, od33, .func (PySem.W.fnOf "fail" "Parser.fail" (defArgs s_Parser_fail) (defBody s_Parser_fail) (defScope s_Parser_fail) .none kV33 dc33 pm33 an33 cd33 ct33), sl33⟩)
    (c33 : PySem.W.codeIn K cd33 "Parser.fail" = true)
    (k33 : PySem.W.keepIn K (.ref f33) = true)
    (n33 : PySem.W.isFn K (.ref f33) = true)
    (a34 : PySem.W.findIn K (.ref Ck1) "is_next" = some (some (.ref f34)))
    (l34 : K.lookup f34 = some ⟨oc34, od34, .func (PySem.W.fnOf "is_next" "Parser.is_next" (defArgs s_Parser_is_next) (defBody s_Parser_is_next) (defScope s_Parser_is_next) .none kV34 dc34 pm34 an34 cd34 ct34), sl34⟩)
    (c34 : PySem.W.codeIn K cd34 "Parser.is_next" = true)
    (k34 : PySem.W.keepIn K (.ref f34) = true)
    (n34 : PySem.W.isFn K (.ref f34) = true)
    (a35 : PySem.W.findIn K (.ref Ck1) "is_kind" = some (some (.ref f35)))
    (l35 : K.lookup f35 = some ⟨oc35, od35, .func (PySem.W.fnOf "is_kind" "Parser.is_kind" (defArgs s_Parser_is_kind) (defBody s_Parser_is_kind) (defScope s_Parser_is_kind) .none kV35 dc35 pm35 an35 cd35 ct35), sl35⟩)
    (c35 : PySem.W.codeIn K cd35 "Parser.is_kind" = true)
    (k35 : PySem.W.keepIn K (.ref f35) = true)
    (n35 : PySem.W.isFn K (.ref f35) = true)
    (a36 : PySem.W.findIn K (.ref Ck1) "take" = some (some (.ref f36)))
    (l36 : K.lookup f36 = some ⟨oc36, od36, .func (PySem.W.fnOf "take" "Parser.take" (defArgs s_Parser_take) (defBody s_Parser_take) (defScope s_Parser_take) .none kV36 dc36 pm36 an36 cd36 ct36), sl36⟩)
    (c36 : PySem.W.codeIn K cd36 "Parser.take" = true)
    (k36 : PySem.W.keepIn K (.ref f36) = true)
    (n36 : PySem.W.isFn K (.ref f36) = true)
    (a37 : PySem.W.findIn K (.ref Ck1) "skip" = some (some (.ref f37)))
    (l37 : K.lookup f37 = some ⟨oc37, od37, .func (PySem.W.fnOf "skip" "Parser.skip" (defArgs s_Parser_skip) (defBody s_Parser_skip) (defScope s_Parser_skip) .none kV37 dc37 pm37 an37 cd37 ct37), sl37⟩)
    (c37 : PySem.W.codeIn K cd37 "Parser.skip" = true)
    (k37 : PySem.W.keepIn K (.ref f37) = true)
    (n37 : PySem.W.isFn K (.ref f37) = true)
    (a38 : PySem.W.findIn K (.ref Ck1) "try_sign" = some (some (.ref f38)))
    (l38 : K.lookup f38 = some ⟨oc38, od38, .func (PySem.W.fnOf "try_sign" "Parser.try_sign" (defArgs s_Parser_try_sign) (defBody s_Parser_try_sign) (defScope s_Parser_try_sign) .none kV38 dc38 pm38 an38 cd38 ct38), sl38⟩)
    (c38 : PySem.W.codeIn K cd38 "Parser.try_sign" = true)
    (k38 : PySem.W.keepIn K (.ref f38) = true)
    (n38 : PySem.W.isFn K (.ref f38) = true)
    (a39 : PySem.W.findIn K (.ref Ck1) "plain_name" = some (some (.ref f39)))
    (l39 : K.lookup f39 = some ⟨oc39, od39, .func (PySem.W.fnOf "plain_name" "Parser.plain_name" (defArgs s_Parser_plain_name) (defBody s_Parser_plain_name) (defScope s_Parser_plain_name) .none kV39 dc39 pm39 an39 cd39 ct39), sl39⟩)
    (c39 : PySem.W.codeIn K cd39 "Parser.plain_name" = true)
    (k39 : PySem.W.keepIn K (.ref f39) = true)
    (n39 : PySem.W.isFn K (.ref f39) = true)
    (a40 : PySem.W.findIn K (.ref Ck1) "constant" = some (some (.ref f40)))
    (l40 : K.lookup f40 = some ⟨oc40, od40, .func (PySem.W.fnOf "constant" "Parser.constant" (defArgs s_Parser_constant) (defBody s_Parser_constant) (defScope s_Parser_constant) .none kV40 dc40 pm40 an40 cd40 ct40), sl40⟩)
    (c40 : PySem.W.codeIn K cd40 "Parser.constant" = true)
    (k40 : PySem.W.keepIn K (.ref f40) = true)
    (n40 : PySem.W.isFn K (.ref f40) = true)
    (a41 : PySem.W.findIn K (.ref Ck1) "value" = some (some (.ref f41)))
    (l41 : K.lookup f41 = some ⟨oc41, od41, .func (PySem.W.fnOf "value" "Parser.value" (defArgs s_Parser_value) (defBody s_Parser_value) (defScope s_Parser_value) .none kV41 dc41 pm41 an41 cd41 ct41), sl41⟩)
    (c41 : PySem.W.codeIn K cd41 "Parser.value" = true)
    (k41 : PySem.W.keepIn K (.ref f41) = true)
    (n41 : PySem.W.isFn K (.ref f41) = true)
    (a42 : PySem.W.findIn K (.ref Ck1) "type_at" = some (some (.ref f42)))
    (l42 : K.lookup f42 = some ⟨oc42, od42, .func (PySem.W.fnOf "type_at" "Parser.type_at" (defArgs s_Parser_type_at) (defBody s_Parser_type_at) (defScope s_Parser_type_at) .none kV42 dc42 pm42 an42 cd42 ct42), sl42⟩)
    (c42 : PySem.W.codeIn K cd42 "Parser.type_at" = true)
    (k42 : PySem.W.keepIn K (.ref f42) = true)
    (n42 : PySem.W.isFn K (.ref f42) = true)
    (a43 : PySem.W.findIn K (.ref Ck1) "declarations" = some (some (.ref f43)))
    (l43 : K.lookup f43 = some ⟨oc43, od43, .func (PySem.W.fnOf "declarations" "Parser.declarations" (defArgs s_Parser_declarations) (defBody s_Parser_declarations) (defScope s_Parser_declarations) .none kV43 dc43 pm43 an43 cd43 ct43), sl43⟩)
    (c43 : PySem.W.codeIn K cd43 "Parser.declarations" = true)
    (k43 : PySem.W.keepIn K (.ref f43) = true)
    (n43 : PySem.W.isFn K (.ref f43) = true)
    (a44 : PySem.W.findIn K (.ref Ck1) "conditions" = some (some (.ref f44)))
    (l44 : K.lookup f44 = some ⟨oc44, od44, .func (PySem.W.fnOf "conditions" "Parser.conditions" (defArgs s_Parser_conditions) (defBody s_Parser_conditions) (defScope s_Parser_conditions) .none kV44 dc44 pm44 an44 cd44 ct44), sl44⟩)
    (c44 : PySem.W.codeIn K cd44 "Parser.conditions" = true)
    (k44 : PySem.W.keepIn K (.ref f44) = true)
    (n44 : PySem.W.isFn K (.ref f44) = true)
    (a45 : PySem.W.findIn K (.ref Ck1) "arguments" = some (some (.ref f45)))
    (l45 : K.lookup f45 = some ⟨oc45, od45, .func (PySem.W.fnOf "arguments" "Parser.arguments" (defArgs s_Parser_arguments) (defBody s_Parser_arguments) (defScope s_Parser_arguments) .none kV45 dc45 pm45 an45 cd45 ct45), sl45⟩)
    (c45 : PySem.W.codeIn K cd45 "Parser.arguments" = true)
    (k45 : PySem.W.keepIn K (.ref f45) = true)
    (n45 : PySem.W.isFn K (.ref f45) = true)
    (a46 : PySem.W.findIn K (.ref Ck1) "field" = some (some (.ref f46)))
    (l46 : K.lookup f46 = some ⟨oc46, od46, .func (PySem.W.fnOf "field" "Parser.field" (defArgs s_Parser_field) (defBody s_Parser_field) (defScope s_Parser_field) .none kV46 dc46 pm46 an46 cd46 ct46), sl46⟩)
    (c46 : PySem.W.codeIn K cd46 "Parser.field" = true)
    (k46 : PySem.W.keepIn K (.ref f46) = true)
    (n46 : PySem.W.isFn K (.ref f46) = true)
    (a47 : PySem.W.findIn K (.ref Ck1) "spread" = some (some (.ref f47)))
    (l47 : K.lookup f47 = some ⟨oc47, od47, .func (PySem.W.fnOf "spread" "Parser.spread" (defArgs s_Parser_spread) (defBody s_Parser_spread) (defScope s_Parser_spread) .none kV47 dc47 pm47 an47 cd47 ct47), sl47⟩)
    (c47 : PySem.W.codeIn K cd47 "Parser.spread" = true)
    (k47 : PySem.W.keepIn K (.ref f47) = true)
    (n47 : PySem.W.isFn K (.ref f47) = true)
    (a48 : PySem.W.findIn K (.ref Ck1) "selection" = some (some (.ref f48)))
    (l48 : K.lookup f48 = some ⟨oc48, od48, .func (PySem.W.fnOf "selection" "Parser.selection" (defArgs s_Parser_selection) (defBody s_Parser_selection) (defScope s_Parser_selection) .none kV48 dc48 pm48 an48 cd48 ct48), sl48⟩)
    (c48 : PySem.W.codeIn K cd48 "Parser.selection" = true)
    (k48 : PySem.W.keepIn K (.ref f48) = true)
    (n48 : PySem.W.isFn K (.ref f48) = true)
    (a49 : PySem.W.findIn K (.ref Ck1) "fragment" = some (some (.ref f49)))
    (l49 : K.lookup f49 = some ⟨oc49, od49, .func (PySem.W.fnOf "fragment" "Parser.fragment" (defArgs s_Parser_fragment) (defBody s_Parser_fragment) (defScope s_Parser_fragment) .none kV49 dc49 pm49 an49 cd49 ct49), sl49⟩)
    (c49 : PySem.W.codeIn K cd49 "Parser.fragment" = true)
    (k49 : PySem.W.keepIn K (.ref f49) = true)
    (n49 : PySem.W.isFn K (.ref f49) = true)
    (a50 : PySem.W.findIn K (.ref Ck1) "document" = some (some (.ref f50)))
    (l50 : K.lookup f50 = some ⟨oc50, od50, .func (PySem.W.fnOf "document" "Parser.document" (defArgs s_Parser_document) (defBody s_Parser_document) (defScope s_Parser_document) .none kV50 dc50 pm50 an50 cd50 ct50), sl50⟩)
    (c50 : PySem.W.codeIn K cd50 "Parser.document" = true)
    (k50 : PySem.W.keepIn K (.ref f50) = true)
    (n50 : PySem.W.isFn K (.ref f50) = true)
    (v0 : PySem.W.nsIn K mainGlobals "BLANKS" = some (some (.str " \n," tc0)))
    (v1 : PySem.W.nsIn K mainGlobals "DIGITS" = some (some (.str "0123456789" tc1)))
    (v2 : PySem.W.nsIn K mainGlobals "LETTERS" = some (some (.str "abcdefghijklmnopqrstuvwxyzABCDEFGHIJKLMNOPQRSTUVWXYZ" tc2)))
    (v3 : PySem.W.nsIn K mainGlobals "META" = some (some (.str "_type" tc3)))
    (v4 : PySem.W.nsIn K mainGlobals "MOST_DEPTH" = some (some (.int 10 tc4)))
    (v5 : PySem.W.nsIn K mainGlobals "MOST_DIGITS" = some (some (.int 10 tc5)))
    (v6 : PySem.W.nsIn K mainGlobals "MOST_FRAGMENTS" = some (some (.int 10 tc6)))
    (v7 : PySem.W.nsIn K mainGlobals "MOST_LISTS" = some (some (.int 5 tc7)))
    (v8 : PySem.W.nsIn K mainGlobals "MOST_NAME" = some (some (.int 30 tc8)))
    (v9 : PySem.W.nsIn K mainGlobals "NAME_SIGNS" = some (some (.str "abcdefghijklmnopqrstuvwxyzABCDEFGHIJKLMNOPQRSTUVWXYZ0123456789_" tc9)))
    (v10 : PySem.W.nsIn K mainGlobals "SIGNS" = some (some (.str "{}():=![]@" tc10)))
    (z0 : PySem.W.nsIn K mainGlobals "int" = some none)
    (z1 : PySem.W.nsIn K mainGlobals "len" = some none)
    (z2 : PySem.W.nsIn K mainGlobals "range" = some none)
    (z3 : PySem.W.nsIn K mainGlobals "tuple" = some none)
    (z4 : PySem.W.nsIn K mainGlobals "isinstance" = some none)
    (z5 : PySem.W.nsIn K mainGlobals "bool" = some none)
    (z6 : PySem.W.nsIn K mainGlobals "super" = some none)
    (kda0 : PySem.W.nsIn K mainGlobals "WORD_CONSTANTS" = some (some (.ref kd0)))
    (kdl0 : K.lookup kd0 = some ⟨.type "dict", none, .dict #[⟨kh0_0, .str "true" kt0_0, .ref kr0_0⟩, ⟨kh0_1, .str "false" kt0_1, .ref kr0_1⟩, ⟨kh0_2, .str "null" kt0_2, .ref kr0_2⟩] kn0, #[]⟩)
    (kdt0_0 : K.lookup kr0_0 = some ⟨.type "tuple", ko0_0, .seq #[.str "truth" kv0_0_0, .bool true] km0_0, ks0_0⟩)
    (kdt0_1 : K.lookup kr0_1 = some ⟨.type "tuple", ko0_1, .seq #[.str "truth" kv0_1_0, .bool false] km0_1, ks0_1⟩)
    (kdt0_2 : K.lookup kr0_2 = some ⟨.type "tuple", ko0_2, .seq #[.str "null" kv0_2_0] km0_2, ks0_2⟩)
    (kdk0 : PySem.W.KeysLit w.params [⟨kh0_0, .str "true" kt0_0, .ref kr0_0⟩, ⟨kh0_1, .str "false" kt0_1, .ref kr0_1⟩, ⟨kh0_2, .str "null" kt0_2, .ref kr0_2⟩])
    (kdo0 : (kd0 == sysModules) = false)
    (xa : PySem.W.nsIn K mainGlobals "InvalidDocument" = some (some (.ref C)))
    (xS : PySem.W.nsIn K mainGlobals "SeamError" = some (some (.ref S)))
    (xL : K.lookup C = some (excClassObj nm q C N bs bm true sn sub ab col dd m0 m1 m2 m3 m5 "ValueError.__new__"))
    (xbm : PySem.HandSPX.refsVE bm = true)
    (xI : PySem.W.excInitIn K C [.type "ValueError", .type "Exception", .type "BaseException", .type "object"] "ValueError.__new__" = true)
    (xsa : PySem.W.findIn K (.ref C) "__setattr__" = some (some (.builtin "object.__setattr__")))
    (xn : PySem.W.findIn K (.ref C) "place" = some none)
    (xi : PySem.W.findIn K (.ref C) "__init__" = some (some (.ref fI)))
    (xt : PySem.W.typeIn K (.ref fI) = some (.type "function"))
    (xk : PySem.W.keepIn K (.ref C) = true)
    (xeC : PySem.W.subIn K (.ref C) (.type "BaseException") = some true)
    (xv : PySem.W.subIn K (.ref C) (.type "ValueError") = some true)
    (xty : PySem.W.typeIn K (.ref C) = some (.type "type"))
    (xhd : PySem.W.hasDictIn K C = true)
    (xsb : PySem.W.mroIn K C (.ref C) = some true)
    (xsu : PySem.W.ks_superIn K C C "__init__" = some (some (.builtin "ValueError.__init__")))
    (xany : PySem.W.nsIn K cStatics "thirdparty.any" = some none)
    (xl : K.lookup fI = some ⟨xoc, xod, .func (PySem.W.ksFn "__init__" iq (SDX.sdA "place" p1 p2) (SDX.sdB "place" q1 q2 q3 q4 q5 q6 q7 q8 q9 q10) xsc .none .none xdc xpm xan (.ref cda) xct cc), xsl⟩)
    (xc : PySem.W.codeIn K (.ref cda) iq = true)
    (xsc' : SDX.SdScope "place" xsc)
    (xln : (q3.endLine == q5.line) = true)
    (xcc : K.lookup cc = some ⟨cl, cld, .cell (some (.ref C)), csl⟩)
    (xcd : K.lookup cda = some ⟨ccl, cdd, .fields cvs, ccs⟩)
    (xfi : cvs[2]? = some (.str ifl itf))
    (xfp : ((P.main.file : Str) == ifl) = true)
    (xtp : (P.main.scope.names.lookup ("super" : Str)).isSome = false)
    (xga : PySem.W.findIn K (.ref C) "__getattribute__" = some (some (.builtin "BaseException.__getattribute__")))
    (xgg : PySem.W.findIn K (.ref C) "__getattr__" = some none)
    (xcl : PySem.W.findIn K (.ref C) "__class__" = some (some (.builtin "object.__class__")))
    (xsp : PySem.W.specialIn K (.builtin "object.__class__") "__get__" = some (some (.builtin "getset_descriptor.__get__")))
    (xtk : PySem.W.takesIn K (.builtin "object.__class__") = some true)
    (xmo : PySem.W.mroIn K C (.type "object") = some true)
    (xss : PySem.W.subIn K (.ref C) (.ref C) = some true)
    (xki : PySem.W.kitOne K (.ref C) (.ref S) = some true)
    (hl : ∀ ns : List Int, ns.length ≤ 63 → ∃ I', F_law [.scr ns] [] = .ok (.bl true) I') :
    ∃ fd : FuncData, (∀ (s : Shared) (v : Value), BindsTo s fd ⟨[v], []⟩ [("_law_script", v)]) ∧ ∀ base : Heap, K.In base → base.Ns mainGlobals mg → FnOk P w K mg base (L2N.CX P w) 70 fa fd ["_law_script"] (spLaw K) := by
  have F : Facts P w K mg C fI cc cda S :=
    { t_run_end := fnt_mk X G a0 l0 c0 k0 (fun _ _ _ _ _ _ us hl => match us, hl with | [_, _, _], _ => rfl),
      t_read_name := fnt_mk X G a1 l1 c1 k1 (fun _ _ _ _ _ _ us hl => match us, hl with | [_, _, _], _ => rfl),
      t_read_number := fnt_mk X G a2 l2 c2 k2 (fun _ _ _ _ _ _ us hl => match us, hl with | [_, _], _ => rfl),
      t_read_string := fnt_mk X G a3 l3 c3 k3 (fun _ _ _ _ _ _ us hl => match us, hl with | [_, _], _ => rfl),
      t_read_word := fnt_mk X G a4 l4 c4 k4 (fun _ _ _ _ _ _ us hl => match us, hl with | [_, _], _ => rfl),
      t_split_words := fnt_mk X G a5 l5 c5 k5 (fun _ _ _ _ _ _ us hl => match us, hl with | [_], _ => rfl),
      t_parse_document := fnt_mk X G a6 l6 c6 k6 (fun _ _ _ _ _ _ us hl => match us, hl with | [_], _ => rfl),
      t_l_refill := fnt_mk X G a7 l7 c7 k7 (fun _ _ _ _ _ _ us hl => match us, hl with | [_, _], _ => rfl),
      t_l_draw := fnt_mk X G a8 l8 c8 k8 (fun _ _ _ _ _ _ us hl => match us, hl with | [_, _, _], _ => rfl),
      t_l_run := fnt_mk X G a9 l9 c9 k9 (fun _ _ _ _ _ _ us hl => match us, hl with | [_, _, _], _ => rfl),
      t_l_named := fnt_mk X G a10 l10 c10 k10 (fun _ _ _ _ _ _ us hl => match us, hl with | [_, _, _], _ => rfl),
      t_l_word_at := fnt_mk X G a11 l11 c11 k11 (fun _ _ _ _ _ _ us hl => match us, hl with | [_, _], _ => rfl),
      t_l_split := fnt_mk X G a12 l12 c12 k12 (fun _ _ _ _ _ _ us hl => match us, hl with | [_], _ => rfl),
      t_l_is := fnt_mk X G a13 l13 c13 k13 (fun _ _ _ _ _ _ us hl => match us, hl with | [_, _, _, _], _ => rfl),
      t_l_kind_at := fnt_mk X G a14 l14 c14 k14 (fun _ _ _ _ _ _ us hl => match us, hl with | [_, _, _], _ => rfl),
      t_l_plain_at := fnt_mk X G a15 l15 c15 k15 (fun _ _ _ _ _ _ us hl => match us, hl with | [_, _], _ => rfl),
      t_l_constant := fnt_mk X G a16 l16 c16 k16 (fun _ _ _ _ _ _ us hl => match us, hl with | [_, _], _ => rfl),
      t_l_value_at := fnt_mk X G a17 l17 c17 k17 (fun _ _ _ _ _ _ us hl => match us, hl with | [_, _], _ => rfl),
      t_l_type_at := fnt_mk X G a18 l18 c18 k18 (fun _ _ _ _ _ _ us hl => match us, hl with | [_, _, _], _ => rfl),
      t_l_declared := fnt_mk X G a19 l19 c19 k19 (fun _ _ _ _ _ _ us hl => match us, hl with | [_, _], _ => rfl),
      t_l_conditions_at := fnt_mk X G a20 l20 c20 k20 (fun _ _ _ _ _ _ us hl => match us, hl with | [_, _], _ => rfl),
      t_l_arguments_at := fnt_mk X G a21 l21 c21 k21 (fun _ _ _ _ _ _ us hl => match us, hl with | [_, _], _ => rfl),
      t_l_field_at := fnt_mk X G a22 l22 c22 k22 (fun _ _ _ _ _ _ us hl => match us, hl with | [_, _, _], _ => rfl),
      t_l_spread_at := fnt_mk X G a23 l23 c23 k23 (fun _ _ _ _ _ _ us hl => match us, hl with | [_, _, _], _ => rfl),
      t_l_selection_at := fnt_mk X G a24 l24 c24 k24 (fun _ _ _ _ _ _ us hl => match us, hl with | [_, _, _], _ => rfl),
      t_l_fragment_at := fnt_mk X G a25 l25 c25 k25 (fun _ _ _ _ _ _ us hl => match us, hl with | [_, _, _], _ => rfl),
      t_l_document_at := fnt_mk X G a26 l26 c26 k26 (fun _ _ _ _ _ _ us hl => match us, hl with | [_], _ => rfl),
      t_l_expected := fnt_mk X G a27 l27 c27 k27 (fun _ _ _ _ _ _ us hl => match us, hl with | [_], _ => rfl),
      t_l_told := fnt_mk X G a28 l28 c28 k28 (fun _ _ _ _ _ _ us hl => match us, hl with | [_], _ => rfl),
      t_l_start := fnt_mk X G a29 l29 c29 k29 (fun _ _ _ _ _ _ us hl => match us, hl with | [_, _], _ => rfl),
      t_Document_init := mkt_mk X G ca0 cm0 ck0 a31 l31 c31 k31 n31 (fun _ _ _ _ _ _ us hl => match us, hl with | [_, _, _, _], _ => rfl),
      t_Parser_init := mkt_mk X G ca1 cm1 ck1 a32 l32 c32 k32 n32 (fun _ _ _ _ _ _ us hl => match us, hl with | [_, _], _ => rfl),
      t_Parser_fail := mtt_mk X G ca1 ⟨cp1, ch1, co1, cs1⟩ a33 l33 c33 k33 n33 (fun _ _ _ _ _ _ us hl => match us, hl with | [_], _ => rfl),
      t_Parser_is_next := mtt_mk X G ca1 ⟨cp1, ch1, co1, cs1⟩ a34 l34 c34 k34 n34 (fun _ _ _ _ _ _ us hl => match us, hl with | [_, _, _], _ => rfl),
      t_Parser_is_kind := mtt_mk X G ca1 ⟨cp1, ch1, co1, cs1⟩ a35 l35 c35 k35 n35 (fun _ _ _ _ _ _ us hl => match us, hl with | [_, _], _ => rfl),
      t_Parser_take := mtt_mk X G ca1 ⟨cp1, ch1, co1, cs1⟩ a36 l36 c36 k36 n36 (fun _ _ _ _ _ _ us hl => match us, hl with | [_, _], _ => rfl),
      t_Parser_skip := mtt_mk X G ca1 ⟨cp1, ch1, co1, cs1⟩ a37 l37 c37 k37 n37 (fun _ _ _ _ _ _ us hl => match us, hl with | [_, _, _], _ => rfl),
      t_Parser_try_sign := mtt_mk X G ca1 ⟨cp1, ch1, co1, cs1⟩ a38 l38 c38 k38 n38 (fun _ _ _ _ _ _ us hl => match us, hl with | [_, _], _ => rfl),
      t_Parser_plain_name := mtt_mk X G ca1 ⟨cp1, ch1, co1, cs1⟩ a39 l39 c39 k39 n39 (fun _ _ _ _ _ _ us hl => match us, hl with | [_], _ => rfl),
      t_Parser_constant := mtt_mk X G ca1 ⟨cp1, ch1, co1, cs1⟩ a40 l40 c40 k40 n40 (fun _ _ _ _ _ _ us hl => match us, hl with | [_], _ => rfl),
      t_Parser_value := mtt_mk X G ca1 ⟨cp1, ch1, co1, cs1⟩ a41 l41 c41 k41 n41 (fun _ _ _ _ _ _ us hl => match us, hl with | [_], _ => rfl),
      t_Parser_type_at := mtt_mk X G ca1 ⟨cp1, ch1, co1, cs1⟩ a42 l42 c42 k42 n42 (fun _ _ _ _ _ _ us hl => match us, hl with | [_, _], _ => rfl),
      t_Parser_declarations := mtt_mk X G ca1 ⟨cp1, ch1, co1, cs1⟩ a43 l43 c43 k43 n43 (fun _ _ _ _ _ _ us hl => match us, hl with | [_], _ => rfl),
      t_Parser_conditions := mtt_mk X G ca1 ⟨cp1, ch1, co1, cs1⟩ a44 l44 c44 k44 n44 (fun _ _ _ _ _ _ us hl => match us, hl with | [_], _ => rfl),
      t_Parser_arguments := mtt_mk X G ca1 ⟨cp1, ch1, co1, cs1⟩ a45 l45 c45 k45 n45 (fun _ _ _ _ _ _ us hl => match us, hl with | [_], _ => rfl),
      t_Parser_field := mtt_mk X G ca1 ⟨cp1, ch1, co1, cs1⟩ a46 l46 c46 k46 n46 (fun _ _ _ _ _ _ us hl => match us, hl with | [_, _], _ => rfl),
      t_Parser_spread := mtt_mk X G ca1 ⟨cp1, ch1, co1, cs1⟩ a47 l47 c47 k47 n47 (fun _ _ _ _ _ _ us hl => match us, hl with | [_, _], _ => rfl),
      t_Parser_selection := mtt_mk X G ca1 ⟨cp1, ch1, co1, cs1⟩ a48 l48 c48 k48 n48 (fun _ _ _ _ _ _ us hl => match us, hl with | [_, _], _ => rfl),
      t_Parser_fragment := mtt_mk X G ca1 ⟨cp1, ch1, co1, cs1⟩ a49 l49 c49 k49 n49 (fun _ _ _ _ _ _ us hl => match us, hl with | [_], _ => rfl),
      t_Parser_document := mtt_mk X G ca1 ⟨cp1, ch1, co1, cs1⟩ a50 l50 c50 k50 n50 (fun _ _ _ _ _ _ us hl => match us, hl with | [_], _ => rfl),
      c_BLANKS := cst_str X G v0 (by first | rfl | decide +kernel),
      c_DIGITS := cst_str X G v1 (by first | rfl | decide +kernel),
      c_LETTERS := cst_str X G v2 (by first | rfl | decide +kernel),
      c_META := cst_str X G v3 (by first | rfl | decide +kernel),
      c_MOST_DEPTH := cst_int X G v4,
      c_MOST_DIGITS := cst_int X G v5,
      c_MOST_FRAGMENTS := cst_int X G v6,
      c_MOST_LISTS := cst_int X G v7,
      c_MOST_NAME := cst_int X G v8,
      c_NAME_SIGNS := cst_str X G v9 (by first | rfl | decide +kernel),
      c_SIGNS := cst_str X G v10 (by first | rfl | decide +kernel),
      b_int := PySem.W.mg_none_of X G z0,
      b_len := PySem.W.mg_none_of X G z1,
      b_range := PySem.W.mg_none_of X G z2,
      b_tuple := PySem.W.mg_none_of X G z3,
      b_isinstance := PySem.W.mg_none_of X G z4,
      b_bool := PySem.W.mg_none_of X G z5,
      b_super := PySem.W.mg_none_of X G z6,
      k_Document := cls_mk X G ca0 ⟨cp0, ch0, co0, cs0⟩ ⟨cn0_0, cn0_1, cn0_2, trivial⟩,
      k_Parser := cls_mk X G ca1 ⟨cp1, ch1, co1, cs1⟩ ⟨cn1_0, cn1_1, cn1_2, trivial⟩,
      d_WORD_CONSTANTS := kd_mk X G kda0 kdl0 kdk0 kdo0 ⟨⟨_, rfl⟩, kdv_tup (vs := [.str "truth", .bl true]) kdt0_0 (by show 2 ≤ sizeLine; decide) (.cons ⟨_, rfl⟩ (.cons rfl (.nil))) fun _ _ _ => ⟨_, _, rfl, rfl, ⟨_, _, rfl, rfl, rfl⟩⟩, ⟨⟨_, rfl⟩, kdv_tup (vs := [.str "truth", .bl false]) kdt0_1 (by show 2 ≤ sizeLine; decide) (.cons ⟨_, rfl⟩ (.cons rfl (.nil))) fun _ _ _ => ⟨_, _, rfl, rfl, ⟨_, _, rfl, rfl, rfl⟩⟩, ⟨⟨_, rfl⟩, kdv_tup (vs := [.str "null"]) kdt0_2 (by show 1 ≤ sizeLine; decide) (.cons ⟨_, rfl⟩ (.nil)) fun _ _ _ => ⟨_, _, rfl, rfl, rfl⟩, trivial⟩⟩⟩,
      x_InvalidDocument := { gC := PySem.W.mg_of X G xa, cls := ⟨nm, q, N, bs, bm, sn, sub, ab, col, dd, m0, m1, m2, m3, m5, xL, xbm⟩, exI := xI, sa := xsa, noN := xn, iC := xi, tC := xt, kC := xk, exC := xeC, veC := xv, tyC := xty, hdC := xhd, sub := xsb, sup := xsu, any := xany, gSup := PySem.W.mg_none_of X G z6, cell := ⟨_, _, _, xcc⟩, code := ⟨_, _, _, _, _, _, xcd, xfi, xfp⟩, top := xtp, fn := ⟨_, _, _, _, _, _, _, _, _, _, _, _, _, _, _, _, _, _, _, _, _, _, xl, xc, xsc', xln⟩ },
      xe_InvalidDocument := ⟨xga, xgg, xeC, xhd, xcl, xsp, xtk, xmo⟩,
      xm_InvalidDocument := PySem.W.exm_ref xeC xhd xty xss,
      xs_InvalidDocument := xki,
      g_S := PySem.W.mg_of X G xS }
  exact law_mk X G hfa a30 l30 (fun s v => .of_eq rfl) hl fun base => ⟨_, sim_law F (fun_mk l30 c30 k30), rfl⟩
theorem walk {l : PySem.W.OpenLaw} {q : Program} {loose : List Str} {XP : (Str → Option Value) → Heap → Prop} {YP : World → Heap → Prop} {d : DefRec} {K : Params → PySem.W.Frag} (hn : l.most = some 63) (hdf : d.params.defaults = [])
    (hY : ∀ (w : World) (h : Heap), YP w h → (K w.params).In h)
    (F : ∀ (w : World) (mg : Str → Option Value) (fa : Addr) (h : Heap), (K w.params).In h → h.Ns mainGlobals mg → mg d.name = some (.ref fa) →
      ∃ fd : FuncData, (∀ (s : Shared) (u : Value), BindsTo s fd ⟨[u], []⟩ [("_law_script", u)]) ∧ ∀ base : Heap, (K w.params).In base → base.Ns mainGlobals mg → FnOk l.prog w (K w.params) mg base (L2N.CX l.prog w) 70 fa fd ["_law_script"] (spLaw (K w.params))) :
    PySem.W.WalkO q loose XP YP l.row.toRowW d [] (fun f vs => PySem.call f vs) :=
  L2.walk_of (n := 63) (k := 70) (x := "_law_script") (CX := fun w => L2N.CX l.prog w) (sp := fun w => spLaw (K w.params)) hn (by decide) hdf ⟨rfl, by decide, by decide⟩ hY F (fun _ _ a ns hl ho hS => ⟨a, ns, rfl, scr_at ho hS, hl, fun _ => rfl⟩) fun w _ _ _ _ z => cxN_false z
end K07
namespace K07
open PySem PySem.Spec L2 MP
def runLen (sg : List Nat) : List Nat → Nat
  | [] => 0
  | c :: t => if c ∈ sg then runLen sg t + 1 else 0
theorem run_le (sg : List Nat) : ∀ t, runLen sg t ≤ t.length
  | [] => Nat.le_refl _
  | c :: t => by
    unfold runLen
    split
    · exact Nat.succ_le_succ (run_le sg t)
    · exact Nat.zero_le _
theorem run_end_ok {t sg : List Nat} (hz : t.length ≤ 1000000) {a : Nat} (ha : a ≤ t.length) (I : MH) : F_run_end [.str t, nI a, .str sg] I = .ok (nI (a + runLen sg (t.drop a))) I := by
  have hz' : t.length ≤ 16777216 := by omega
  have key : ∀ (m a n : Nat), t.length - a = m → a ≤ t.length → m < n → whileN (andT (boolE (bin2 ltS (getV 1) (bltE lenD [(getV 0)]))) (boolE (bin2 (inDD false) (bin2 ixDD (getV 0) (getV 1)) (getV 2)))) (seqS (augS 1 addI (cV (.int 1))) nxS) n [some (.str t), some (nI a), some (.str sg)] I
      = .nx [some (.str t), some (nI (a + runLen sg (t.drop a))), some (.str sg)] I := by
    intro m
    induction m with
    | zero =>
      intro a n h1 h2 h3
      obtain ⟨n, rfl⟩ : ∃ k, n = k + 1 := ⟨n - 1, by omega⟩
      have e : t.drop a = [] := List.drop_eq_nil_of_le (by omega)
      rw [e]
      refine while_no ?_
      have h4 : ¬ (a < t.length) := by omega
      simp -implicitDefEqProofs [hz', h4]
    | succ m ih =>
      intro a n h1 h2 h3
      obtain ⟨n, rfl⟩ : ∃ k, n = k + 1 := ⟨n - 1, by omega⟩
      have hlt : a < t.length := by omega
      have e : t.drop a = t[a] :: t.drop (a + 1) := List.drop_eq_getElem_cons hlt
      have hc : t[a]? = some t[a] := List.getElem?_eq_getElem hlt
      have hx : ∀ I, ixD (.str t) (nI a) I = .ok (.str [t[a]]) I := fun I => e_ixs hz' hc
      rw [e]
      by_cases hin : t[a] ∈ sg
      · rw [while_nx (ρ2 := [some (.str t), some (nI (a + 1)), some (.str sg)]) (I1 := I) (I2 := I) (by simp -implicitDefEqProofs [hz', hlt, hx, hin]) (by simp -implicitDefEqProofs), ih (a + 1) n (by omega) (by omega) (by omega)]
        simp only [runLen, if_pos hin]
        rw [show a + (runLen sg (List.drop (a + 1) t) + 1) = a + 1 + runLen sg (List.drop (a + 1) t) by omega]
      · rw [while_no (I1 := I) (by simp -implicitDefEqProofs [hz', hlt, hx, hin])]
        simp only [runLen, if_neg hin, Nat.add_zero]
  have e := key (t.length - a) a whileFuel rfl ha (by unfold whileFuel; omega)
  unfold F_run_end b_run_end
  rw [run_def]
  simp -implicitDefEqProofs [whileS, e]
end K07
namespace K07
open PySem PySem.Spec L2 MP
def nameBad (nm : List Nat) : Bool := (nm != t_meta) && ((nm == []) || ((match nm with
  | c :: _ => !decide (c ∈ t_LET)
  | [] => false) || decide (30 < nm.length)))
def nmLen (t : List Nat) (a : Nat) : Nat := runLen t_NAM (t.drop a)
def nmOf (t : List Nat) (a : Nat) : List Nat := (t.drop a).take (nmLen t a)
def doc (p : Nat) : Exn := ⟨"InvalidDocument", some ("place", nI p)⟩
theorem nm_len (t : List Nat) (a : Nat) : (nmOf t a).length ≤ t.length := by
  unfold nmOf; rw [List.length_take, List.length_drop]; omega
theorem read_name_ok {t : List Nat} (hz : t.length ≤ 1000000) {a : Nat} (ha : a ≤ t.length) (p : Nat) (I : MH) :
    F_read_name [.str t, nI a, nI p] I = if nameBad (nmOf t a) then .err (doc p) I else .ok (.tup [.str (nmOf t a), nI (a + nmLen t a)]) I := by
  have hz' : t.length ≤ 16777216 := by omega
  have hl := nm_len t a
  have e1 : ∀ I, F_run_end [.str t, nI a, .str t_NAM] I = .ok (nI (a + nmLen t a)) I := fun I => run_end_ok hz ha I
  have e2 : List.take (nmLen t a) (List.drop a t) = nmOf t a := rfl
  unfold F_read_name b_read_name
  rw [run_def]
  have hm : ([] : List Nat) ≠ t_meta := by decide
  have hm' : t_meta ≠ ([] : List Nat) := by decide
  generalize nmOf t a = nm at hl e2 ⊢
  cases nm with
  | nil => simp -implicitDefEqProofs [e1, hz', ha, e2, nameBad, hm, hm', doc]
  | cons c r =>
    have hl' : r.length + 1 ≤ 16777216 := by simpa using Nat.le_trans hl hz'
    by_cases h1 : c :: r = t_meta
    · simp -implicitDefEqProofs [e1, hz', ha, e2, hl', nameBad, h1]
    by_cases h2 : c ∈ t_LET
    · by_cases h3 : 30 < r.length + 1 <;> simp -implicitDefEqProofs [e1, hz', ha, e2, hl', nameBad, h1, h2, h3, doc]
    · simp -implicitDefEqProofs [e1, hz', ha, e2, hl', nameBad, h1, h2, doc]
noncomputable def runB : SF := (seqS (ifS (andT (boolE (bin2 eqD (getV 3) (getV 4))) (boolE (bin2 (inDD false) (bin2 ixDD (getV 0) (getV 4)) (getV 2)))) (seqS (asgS (bin2 addD (getV 4) (cV (.int 1))) (nameT 3)) nxS) nxS) nxS)
theorem run_dead {t sg : List Nat} {a : Nat} (I : MH) : ∀ (m j e : Nat) (L : List D) (k : Option D), t.length - j = m → e < j → ∃ k', forL ⟨L, none⟩ (nameT 4) runB (upTo j t.length) [some (.str t), some (nI a), some (.str sg), some (nI e), k] I = .nx [some (.str t), some (nI a), some (.str sg), some (nI e), k'] I := by
  intro m
  induction m with
  | zero => intro j e L k h1 h2; rw [upTo_nil (by omega)]; exact ⟨k, rfl⟩
  | succ m ih =>
    intro j e L k h1 h2
    rw [upTo_cons (by omega)]
    have hne : ¬ e = j := by omega
    rw [for_nx (ρ1 := [some (.str t), some (nI a), some (.str sg), some (nI e), some (nI j)]) (ρ2 := [some (.str t), some (nI a), some (.str sg), some (nI e), some (nI j)]) (I1 := I) (I2 := I) (by simp) (by simp -implicitDefEqProofs [runB, hne])]
    exact ih (j + 1) e L _ (by omega) (by omega)
theorem run_live {t sg : List Nat} {a : Nat} (hz' : t.length ≤ 16777216) (I : MH) : ∀ (m j : Nat) (L : List D) (k : Option D), t.length - j = m → j ≤ t.length → ∃ k', forL ⟨L, none⟩ (nameT 4) runB (upTo j t.length)
      [some (.str t), some (nI a), some (.str sg), some (nI j), k] I = .nx [some (.str t), some (nI a), some (.str sg), some (nI (j + runLen sg (t.drop j))), k'] I := by
  intro m
  induction m with
  | zero => intro j L k h1 h2; rw [upTo_nil (by omega), List.drop_eq_nil_of_le (by omega)]; exact ⟨k, rfl⟩
  | succ m ih =>
    intro j L k h1 h2
    have hlt : j < t.length := by omega
    have e : t.drop j = t[j] :: t.drop (j + 1) := List.drop_eq_getElem_cons hlt
    have hx : ∀ I, ixD (.str t) (nI j) I = .ok (.str [t[j]]) I := fun I => e_ixs hz' (List.getElem?_eq_getElem hlt)
    rw [upTo_cons hlt, e]
    by_cases hin : t[j] ∈ sg
    · rw [for_nx (ρ1 := [some (.str t), some (nI a), some (.str sg), some (nI j), some (nI j)]) (ρ2 := [some (.str t), some (nI a), some (.str sg), some (nI (j + 1)), some (nI j)]) (I1 := I) (I2 := I) (by simp) (by simp -implicitDefEqProofs [runB, hx, hin])]
      obtain ⟨k', e'⟩ := ih (j + 1) L (some (nI j)) (by omega) (by omega)
      refine ⟨k', e'.trans ?_⟩
      simp only [runLen, if_pos hin]
      rw [show j + (runLen sg (List.drop (j + 1) t) + 1) = j + 1 + runLen sg (List.drop (j + 1) t) by omega]
    · rw [for_nx (ρ1 := [some (.str t), some (nI a), some (.str sg), some (nI j), some (nI j)]) (ρ2 := [some (.str t), some (nI a), some (.str sg), some (nI j), some (nI j)]) (I1 := I) (I2 := I) (by simp) (by simp -implicitDefEqProofs [runB, hx, hin])]
      simp only [runLen, if_neg hin, Nat.add_zero]
      exact run_dead I (t.length - (j + 1)) (j + 1) j L _ rfl (by omega)
theorem l_run_ok {t sg : List Nat} (hz : t.length ≤ 1000000) {a : Nat} (ha : a ≤ t.length) (I : MH) : F_l_run [.str t, nI a, .str sg] I = .ok (nI (a + runLen sg (t.drop a))) I := by
  have hz' : t.length ≤ 16777216 := by omega
  have ha' : a ≤ 16777216 := by omega
  obtain ⟨k', e⟩ := run_live (sg := sg) (a := a) hz' I (t.length - a) a (upTo a t.length) none rfl ha
  unfold F_l_run b_l_run
  rw [run_def]
  change endD I (seqS _ (seqS (forS _ _ runB) _) _ _) = _
  simp -implicitDefEqProofs [hz', ha', e]
def t_NAM' : List Nat := t_LET ++ t_digu
theorem l_named_ok {t : List Nat} (hz : t.length ≤ 1000000) {a : Nat} (ha : a ≤ t.length) (p : Nat) (I : MH) :
    F_l_named [.str t, nI a, nI p] I = .ok (if nameBad (nmOf t a) then .tup [.str t_fault, nI p] else .tup [.str t_word, .str (nmOf t a), nI (a + nmLen t a)]) I := by
  have hz' : t.length ≤ 16777216 := by omega
  have hl := nm_len t a
  have e0 : ∀ I, addD (.str t_LET) (.str t_digu) I = .ok (.str t_NAM) I := fun I => rfl
  have e1 : ∀ I, F_l_run [.str t, nI a, .str t_NAM] I = .ok (nI (a + nmLen t a)) I := fun I => l_run_ok hz ha I
  have e2 : List.take (nmLen t a) (List.drop a t) = nmOf t a := rfl
  unfold F_l_named b_l_named
  rw [run_def]
  have hm : ([] : List Nat) ≠ t_meta := by decide
  have hm' : t_meta ≠ ([] : List Nat) := by decide
  generalize nmOf t a = nm at hl e2 ⊢
  cases nm with
  | nil => simp -implicitDefEqProofs [e0, e1, hz', ha, e2, nameBad, hm, hm']
  | cons c r =>
    have hl' : r.length + 1 ≤ 16777216 := by simpa using Nat.le_trans hl hz'
    by_cases h1 : c :: r = t_meta
    · simp -implicitDefEqProofs [e0, e1, hz', ha, e2, hl', nameBad, h1]
    by_cases h2 : c ∈ t_LET
    · by_cases h3 : 30 < r.length + 1 <;> simp -implicitDefEqProofs [e0, e1, hz', ha, e2, hl', nameBad, h1, h2, h3]
    · simp -implicitDefEqProofs [e0, e1, hz', ha, e2, hl', nameBad, h1, h2]
end K07
namespace K07
open PySem PySem.Spec L2 MP
theorem run_all {sg : List Nat} : ∀ t : List Nat, ∀ c ∈ t.take (runLen sg t), c ∈ sg
  | [], c, h => by simp at h
  | d :: t, c, h => by
    unfold runLen at h
    split at h
    · rename_i hd
      rw [List.take_succ_cons] at h
      rcases List.mem_cons.mp h with rfl | h
      · exact hd
      · exact run_all t c h
    · simp at h
def numLen (t : List Nat) (b : Nat) : Nat := runLen t_dig (t.drop b)
def numOf (t : List Nat) (b : Nat) : List Nat := (t.drop b).take (numLen t b)
def numVal (t : List Nat) (b : Nat) : Int := ((NumText.digitsVal (numOf t b) : Nat) : Int)
theorem num_le {t : List Nat} {b : Nat} : numLen t b ≤ t.length - b := by
  have := run_le t_dig (t.drop b)
  rw [List.length_drop] at this
  exact this
theorem num_int {t : List Nat} {b : Nat} (h0 : numLen t b ≠ 0) (h1 : ¬ 10 < numLen t b) (I : MH) : intD [.str (numOf t b)] I = .ok (.int (numVal t b)) I := by
  have hl : (numOf t b).length = numLen t b := by
    unfold numOf
    rw [List.length_take, List.length_drop, Nat.min_eq_left num_le]
  refine o_ints (List.all_eq_true.mpr fun c hc => ?_) (fun z => h0 (by rw [← hl, z]; rfl)) (by omega)
  have := run_all (sg := t_dig) (t.drop b) c hc
  have all : ∀ c ∈ t_dig, (decide (48 ≤ c) && decide (c ≤ 57)) = true := by decide
  exact all c this
theorem read_number_ok {t : List Nat} (hz : t.length ≤ 1000000) {a c : Nat} (hc : t[a]? = some c) (I : MH) :
    F_read_number [.str t, nI a] I = (let b := if c = 45 then a + 1 else a
      if numLen t b = 0 ∨ 10 < numLen t b then .err (doc a) I else .ok (.tup [.int (if c = 45 then - numVal t b else numVal t b), nI (b + numLen t b)]) I) := by
  have hz' : t.length ≤ 16777216 := by omega
  have ha : a < t.length := (List.getElem?_eq_some_iff.mp hc).1
  have hx : ∀ I, ixD (.str t) (nI a) I = .ok (.str [c]) I := fun I => e_ixs hz' hc
  have key : ∀ b, b ≤ t.length → ∀ I, F_run_end [.str t, nI b, .str t_dig] I = .ok (nI (b + numLen t b)) I := fun b hb I => run_end_ok hz hb I
  have e2 : ∀ b, List.take (numLen t b) (List.drop b t) = numOf t b := fun b => rfl
  have ha' : a ≤ t.length := by omega
  have ha1 : a + 1 ≤ t.length := by omega
  unfold F_read_number b_read_number
  rw [run_def]
  by_cases h45 : c = 45
  · by_cases h0 : numLen t (a + 1) = 0
    · simp -implicitDefEqProofs [hx, h45, key, ha1, hz', h0, doc]
    · by_cases h1 : 10 < numLen t (a + 1)
      · simp -implicitDefEqProofs [hx, h45, key, ha1, hz', h0, h1, doc]
      · simp -implicitDefEqProofs [hx, h45, key, ha1, hz', h0, h1, e2, num_int h0 h1]
  · by_cases h0 : numLen t a = 0
    · simp -implicitDefEqProofs [hx, h45, key, ha', hz', h0, doc]
    · by_cases h1 : 10 < numLen t a
      · simp -implicitDefEqProofs [hx, h45, key, ha', hz', h0, h1, doc]
      · simp -implicitDefEqProofs [hx, h45, key, ha', hz', h0, h1, e2, num_int h0 h1]
/-! strings -/
def strLen : List Nat → Nat
  | [] => 0
  | c :: t => if c = 34 ∨ c = 10 then 0 else strLen t + 1
theorem str_le : ∀ t, strLen t ≤ t.length
  | [] => Nat.le_refl _
  | c :: t => by
    unfold strLen
    split
    · exact Nat.zero_le _
    · exact Nat.succ_le_succ (str_le t)
theorem str_in : ∀ (t : List Nat) (j : Nat), j < strLen t → ∃ c, t[j]? = some c ∧ c ≠ 34 ∧ c ≠ 10
  | [], j, h => by simp [strLen] at h
  | c :: t, j, h => by
    unfold strLen at h
    split at h
    · omega
    · rename_i hc
      cases j with
      | zero => exact ⟨c, rfl, fun z => hc (.inl z), fun z => hc (.inr z)⟩
      | succ j =>
        obtain ⟨d, h1, h2⟩ := str_in t j (by omega)
        exact ⟨d, by simpa using h1, h2⟩
theorem str_end : ∀ (t : List Nat), strLen t = t.length ∨ ∃ c, t[strLen t]? = some c ∧ (c = 34 ∨ c = 10)
  | [] => .inl rfl
  | c :: t => by
    unfold strLen
    split
    · rename_i hc
      exact .inr ⟨c, rfl, hc⟩
    · rcases str_end t with h | ⟨d, h1, h2⟩
      · exact .inl (by rw [h]; rfl)
      · exact .inr ⟨d, by simpa using h1, h2⟩
noncomputable def strT : TF := (andT (boolE (bin2 ltS (getV 2) (bltE lenD [(getV 0)]))) (andT (boolE (bin2 neD (bin2 ixDD (getV 0) (getV 2)) (cV (.str [34])))) (boolE (bin2 neD (bin2 ixDD (getV 0) (getV 2)) (cV (.str [10]))))))
theorem str_loop {t : List Nat} (hz' : t.length ≤ 16777216) {a : Nat} (I : MH) : ∀ (m j n : Nat), t.length - j = m → j ≤ t.length → m < n → whileN strT (seqS (augS 2 addI (cV (.int 1))) nxS) n [some (.str t), some (nI a), some (nI j)] I
      = .nx [some (.str t), some (nI a), some (nI (j + strLen (t.drop j)))] I := by
  intro m
  induction m with
  | zero =>
    intro j n h1 h2 h3
    obtain ⟨n, rfl⟩ : ∃ k, n = k + 1 := ⟨n - 1, by omega⟩
    have e : t.drop j = [] := List.drop_eq_nil_of_le (by omega)
    rw [e]
    refine while_no ?_
    have h4 : ¬ (j < t.length) := by omega
    simp -implicitDefEqProofs [strT, hz', h4]
  | succ m ih =>
    intro j n h1 h2 h3
    obtain ⟨n, rfl⟩ : ∃ k, n = k + 1 := ⟨n - 1, by omega⟩
    have hlt : j < t.length := by omega
    have e : t.drop j = t[j] :: t.drop (j + 1) := List.drop_eq_getElem_cons hlt
    have hx : ∀ I, ixD (.str t) (nI j) I = .ok (.str [t[j]]) I := fun I => e_ixs hz' (List.getElem?_eq_getElem hlt)
    rw [e]
    by_cases h34 : t[j] = 34
    · rw [while_no (I1 := I) (by simp -implicitDefEqProofs [strT, hz', hlt, hx, h34])]
      simp only [strLen, if_pos (show t[j] = 34 ∨ t[j] = 10 from .inl h34), Nat.add_zero]
    · by_cases h10 : t[j] = 10
      · rw [while_no (I1 := I) (by simp -implicitDefEqProofs [strT, hz', hlt, hx, h34, h10])]
        simp only [strLen, if_pos (show t[j] = 34 ∨ t[j] = 10 from .inr h10), Nat.add_zero]
      · rw [while_nx (ρ2 := [some (.str t), some (nI a), some (nI (j + 1))]) (I1 := I) (I2 := I) (by simp -implicitDefEqProofs [strT, hz', hlt, hx, h34, h10]) (by simp -implicitDefEqProofs), ih (j + 1) n (by omega) (by omega) (by omega)]
        simp only [strLen, if_neg (show ¬ (t[j] = 34 ∨ t[j] = 10) from fun z => z.elim h34 h10)]
        rw [show j + (strLen (List.drop (j + 1) t) + 1) = j + 1 + strLen (List.drop (j + 1) t) by omega]
def sLen (t : List Nat) (a : Nat) : Nat := strLen (t.drop (a + 1))
def strGood (t : List Nat) (a : Nat) : Prop := t[a + 1 + sLen t a]? = some 34
instance (t : List Nat) (a : Nat) : Decidable (strGood t a) := inferInstanceAs (Decidable (_ = _))
def strOf (t : List Nat) (a : Nat) : List Nat := (t.drop (a + 1)).take (sLen t a)
theorem str_cases (t : List Nat) (a : Nat) (ha : a < t.length) : strGood t a ∨ (¬ strGood t a ∧ a + 1 + sLen t a = t.length) ∨ (¬ strGood t a ∧ t[a + 1 + sLen t a]? = some 10) := by
  by_cases hg : strGood t a
  · exact .inl hg
  rcases str_end (t.drop (a + 1)) with h | ⟨c, h1, h2⟩
  · refine .inr (.inl ⟨hg, ?_⟩)
    unfold sLen
    rw [h, List.length_drop]
    omega
  · rw [List.getElem?_drop] at h1
    rcases h2 with rfl | rfl
    · exact absurd h1 hg
    · exact .inr (.inr ⟨hg, h1⟩)
theorem read_string_ok {t : List Nat} (hz : t.length ≤ 1000000) {a : Nat} (ha : a < t.length) (I : MH) :
    F_read_string [.str t, nI a] I = if strGood t a then .ok (.tup [.str (strOf t a), nI (a + 1 + sLen t a + 1)]) I else .err (doc a) I := by
  have hz' : t.length ≤ 16777216 := by omega
  have ha1 : a + 1 ≤ t.length := by omega
  have e := str_loop hz' (a := a) I (t.length - (a + 1)) (a + 1) whileFuel rfl ha1 (by unfold whileFuel; omega)
  have e2 : List.take (sLen t a) (List.drop (a + 1) t) = strOf t a := rfl
  have e3 : strLen (t.drop (a + 1)) = sLen t a := rfl
  rw [e3] at e
  unfold F_read_string b_read_string
  rw [run_def]
  change endD I (seqS _ (seqS (whileS strT _) _) _ _) = _
  rcases str_cases t a ha with hg | ⟨hg, h⟩ | ⟨hg, h⟩
  · have hlt : a + 1 + sLen t a < t.length := (List.getElem?_eq_some_iff.mp hg).1
    have hne : ¬ a + 1 + sLen t a = t.length := by omega
    have hx : ∀ I, ixD (.str t) (nI (a + 1 + sLen t a)) I = .ok (.str [34]) I := fun I => e_ixs hz' hg
    simp -implicitDefEqProofs [whileS, e, hz', hne, hx, hg, ha1, e2]
  · simp -implicitDefEqProofs [whileS, e, hz', h, hg, doc]
  · have hlt : a + 1 + sLen t a < t.length := (List.getElem?_eq_some_iff.mp h).1
    have hne : ¬ a + 1 + sLen t a = t.length := by omega
    have hx : ∀ I, ixD (.str t) (nI (a + 1 + sLen t a)) I = .ok (.str [10]) I := fun I => e_ixs hz' h
    simp -implicitDefEqProofs [whileS, e, hz', hne, hx, hg, doc]
theorem find_good {t : List Nat} {a : Nat} (hg : strGood t a) (I : MH) : findD (.str t) [.str [34], nI (a + 1)] I = .ok (nI (a + 1 + sLen t a)) I := by
  rw [o_find]
  have no : ∀ v, a + 1 ≤ v → v < a + 1 + sLen t a → t[v]? ≠ some 34 := fun v h1 h2 z => by
    obtain ⟨c, e1, e2, _⟩ := str_in (t.drop (a + 1)) (v - (a + 1)) (by unfold sLen at h2; omega)
    rw [List.getElem?_drop, show a + 1 + (v - (a + 1)) = v by omega, z] at e1
    cases e1
    exact e2 rfl
  have hlt : a + 1 + sLen t a < t.length := (List.getElem?_eq_some_iff.mp hg).1
  rcases find_spec t 34 (a + 1) with ⟨h1, h2⟩ | ⟨k, h1, h2, h3, h4⟩
  · exact absurd hg (h2 _ (by omega) hlt)
  · rw [h1]
    have : k = a + 1 + sLen t a := by
      rcases Nat.lt_trichotomy k (a + 1 + sLen t a) with h | h | h
      · exact absurd h3 (no k h2 h)
      · exact h
      · exact absurd hg (h4 _ (by omega) h)
    rw [this]
    rfl
theorem find_bad {t : List Nat} {a : Nat} (ha : a < t.length) (hg : ¬ strGood t a) (I : MH) : findD (.str t) [.str [34], nI (a + 1)] I = .ok (.int (-1)) I ∨
    ∃ q, findD (.str t) [.str [34], nI (a + 1)] I = .ok (nI q) I ∧ 10 ∈ (t.drop a).take (q - a) := by
  rw [o_find]
  rcases find_spec t 34 (a + 1) with ⟨h1, h2⟩ | ⟨k, h1, h2, h3, h4⟩
  · left; rw [h1]
  · right
    rw [h1]
    refine ⟨k, rfl, ?_⟩
    have hk : k < t.length := (List.getElem?_eq_some_iff.mp h3).1
    rcases str_cases t a ha with h | ⟨_, h⟩ | ⟨_, h⟩
    · exact absurd h hg
    · obtain ⟨c, e1, e2, _⟩ := str_in (t.drop (a + 1)) (k - (a + 1)) (by unfold sLen at h; omega)
      rw [List.getElem?_drop, show a + 1 + (k - (a + 1)) = k by omega, h3] at e1
      cases e1
      exact absurd rfl e2
    · have hlt : a + 1 + sLen t a < k := by
        rcases Nat.lt_trichotomy k (a + 1 + sLen t a) with hh | hh | hh
        · obtain ⟨c, e1, e2, _⟩ := str_in (t.drop (a + 1)) (k - (a + 1)) (by unfold sLen at hh; omega)
          rw [List.getElem?_drop, show a + 1 + (k - (a + 1)) = k by omega, h3] at e1
          cases e1
          exact absurd rfl e2
        · rw [hh, h] at h3; cases h3
        · exact hh
      refine List.mem_of_getElem? (i := 1 + sLen t a) ?_
      rw [List.getElem?_take_of_lt (by omega), List.getElem?_drop, show a + (1 + sLen t a) = a + 1 + sLen t a by omega]
      exact h
end K07
namespace K07
open PySem PySem.Spec L2 MP
/-- the word at a place: kind, what it is, its end -/
def word (t : List Nat) (a : Nat) : Option (List Nat × D × Nat) :=
  let c := t.getD a 0
  if c ∈ t_SIG then some (t_sign, .str [c], a + 1)
  else if (t.drop a).take 3 = t_dots then some (t_sign, .str t_dots, a + 3)
  else if c = 36 then (if nameBad (nmOf t (a + 1)) = true ∨ nmOf t (a + 1) = t_meta then none else some (t_variable, .str (nmOf t (a + 1)), a + 1 + nmLen t (a + 1)))
  else if c = 34 then (if strGood t a then some (t_text, .str (strOf t a), a + 1 + sLen t a + 1) else none)
  else if c = 45 ∨ c ∈ t_dig then (let b := if c = 45 then a + 1 else a
    if numLen t b = 0 ∨ 10 < numLen t b then none else some (t_number, .int (if c = 45 then - numVal t b else numVal t b), b + numLen t b))
  else if nameBad (nmOf t a) then none else some (t_name, .str (nmOf t a), a + nmLen t a)
theorem read_word_ok {t : List Nat} (hz : t.length ≤ 1000000) {a : Nat} (ha : a < t.length) (I : MH) :
    F_read_word [.str t, nI a] I = match word t a with
      | some (k, w, e) => .ok (.tup [.str k, w, nI e]) I
      | none => .err (doc a) I := by
  have hz' : t.length ≤ 16777216 := by omega
  have ha' : a ≤ t.length := by omega
  have ha1 : a + 1 ≤ t.length := by omega
  obtain ⟨c, hc⟩ : ∃ c, t[a]? = some c := ⟨t[a], List.getElem?_eq_getElem ha⟩
  have hx : ∀ I, ixD (.str t) (nI a) I = .ok (.str [c]) I := fun I => e_ixs hz' hc
  have hd : t.getD a 0 = c := by rw [List.getD_eq_getElem?_getD, hc]; rfl
  have e0 : ∀ p I, F_read_name [.str t, nI a, nI p] I = if nameBad (nmOf t a) then .err (doc p) I else .ok (.tup [.str (nmOf t a), nI (a + nmLen t a)]) I := fun p I => read_name_ok hz ha' p I
  have e1 : ∀ p I, F_read_name [.str t, nI (a + 1), nI p] I = if nameBad (nmOf t (a + 1)) then .err (doc p) I else .ok (.tup [.str (nmOf t (a + 1)), nI (a + 1 + nmLen t (a + 1))]) I := fun p I => read_name_ok hz ha1 p I
  have e2 : ∀ I, F_read_string [.str t, nI a] I = if strGood t a then .ok (.tup [.str (strOf t a), nI (a + 1 + sLen t a + 1)]) I else .err (doc a) I := fun I => read_string_ok hz ha I
  have e3 := fun I => read_number_ok hz hc I
  have e4 : a + 3 - a = 3 := by omega
  have hmm : nameBad t_meta = false := by decide
  unfold word
  rw [hd]
  unfold F_read_word b_read_word
  rw [run_def]
  by_cases h1 : c ∈ t_SIG
  · simp -implicitDefEqProofs [hx, h1]
  by_cases h2 : (t.drop a).take 3 = t_dots
  · simp -implicitDefEqProofs [hx, h1, hz', ha', e4, h2]
  by_cases h3 : c = 36
  · subst h3
    by_cases h4 : nameBad (nmOf t (a + 1)) = true
    · simp -implicitDefEqProofs [hx, h1, hz', ha', e4, h2, e1, h4]
    · by_cases h5 : nmOf t (a + 1) = t_meta
      · simp -implicitDefEqProofs [hx, h1, hz', ha', e4, h2, e1, h4, h5, hmm, doc]
      · simp -implicitDefEqProofs [hx, h1, hz', ha', e4, h2, e1, h4, h5]
  by_cases h6 : c = 34
  · subst h6
    by_cases h7 : strGood t a
    · simp -implicitDefEqProofs [hx, h1, hz', ha', e4, h2, e2, h7]
    · simp -implicitDefEqProofs [hx, h1, hz', ha', e4, h2, e2, h7]
  by_cases h8 : c = 45
  · subst h8
    have e3' := e3
    simp only [if_true] at e3'
    by_cases h9 : numLen t (a + 1) = 0 ∨ 10 < numLen t (a + 1)
    · simp -implicitDefEqProofs [hx, h1, hz', ha', e4, h2, e3', h9]
    · simp -implicitDefEqProofs [hx, h1, hz', ha', e4, h2, e3', h9]
  by_cases h10 : c ∈ t_dig
  · have e3' := e3
    simp only [if_neg h8] at e3'
    by_cases h9 : numLen t a = 0 ∨ 10 < numLen t a
    · simp -implicitDefEqProofs [hx, h1, hz', ha', e4, h2, h3, h6, h8, h10, e3', h9]
    · simp -implicitDefEqProofs [hx, h1, hz', ha', e4, h2, h3, h6, h8, h10, e3', h9]
  · by_cases h4 : nameBad (nmOf t a) = true
    · simp -implicitDefEqProofs [hx, h1, hz', ha', e4, h2, h3, h6, h8, h10, e0, h4]
    · simp -implicitDefEqProofs [hx, h1, hz', ha', e4, h2, h3, h6, h8, h10, e0, h4]
theorem l_word_ok {t : List Nat} (hz : t.length ≤ 1000000) {a : Nat} (ha : a < t.length) (I : MH) :
    F_l_word_at [.str t, nI a] I = .ok (match word t a with
      | some (k, w, e) => .tup [.str t_word, .tup [.str k, w], nI e]
      | none => .tup [.str t_fault, nI a]) I := by
  have hz' : t.length ≤ 16777216 := by omega
  have ha' : a ≤ t.length := by omega
  have ha1 : a + 1 ≤ t.length := by omega
  obtain ⟨c, hc⟩ : ∃ c, t[a]? = some c := ⟨t[a], List.getElem?_eq_getElem ha⟩
  have hx : ∀ I, ixD (.str t) (nI a) I = .ok (.str [c]) I := fun I => e_ixs hz' hc
  have hd : t.getD a 0 = c := by rw [List.getD_eq_getElem?_getD, hc]; rfl
  have e0 : ∀ p I, F_l_named [.str t, nI a, nI p] I = .ok (if nameBad (nmOf t a) then .tup [.str t_fault, nI p] else .tup [.str t_word, .str (nmOf t a), nI (a + nmLen t a)]) I := fun p I => l_named_ok hz ha' p I
  have e1 : ∀ p I, F_l_named [.str t, nI (a + 1), nI p] I = .ok (if nameBad (nmOf t (a + 1)) then .tup [.str t_fault, nI p] else .tup [.str t_word, .str (nmOf t (a + 1)), nI (a + 1 + nmLen t (a + 1))]) I := fun p I => l_named_ok hz ha1 p I
  have key : ∀ b, b ≤ t.length → ∀ I, F_l_run [.str t, nI b, .str t_dig] I = .ok (nI (b + numLen t b)) I := fun b hb I => l_run_ok hz hb I
  have n2 : ∀ b, List.take (numLen t b) (List.drop b t) = numOf t b := fun b => rfl
  have s2 : List.take (sLen t a) (List.drop (a + 1) t) = strOf t a := rfl
  have e4 : a + 3 - a = 3 := by omega
  have hmm : nameBad t_meta = false := by decide
  have hmd : ∀ c, c ∈ t_mdig ↔ c = 45 ∨ c ∈ t_dig := fun c => by
    have : t_mdig = 45 :: t_dig := rfl
    rw [this, List.mem_cons]
  have hfw : ¬ t_fault = t_word := by decide
  have hwf : ¬ t_word = t_fault := by decide
  have d34 : ¬ (34 ∈ t_dig) := by decide
  have d36 : ¬ (36 ∈ t_dig) := by decide
  have hcs : c ∈ t_SIG ∨ ¬ c ∈ t_SIG := Decidable.em _
  have e10 : ∀ b n : Nat, (b + 10 < b + n) = (10 < n) := fun b n => by
    have : (b + 10 < b + n) ↔ (10 < n) := by omega
    exact propext this
  unfold word
  rw [hd]
  unfold F_l_word_at b_l_word_at
  rw [run_def]
  by_cases h1 : c ∈ t_SIG
  · simp -implicitDefEqProofs [hx, h1]
  by_cases h2 : (t.drop a).take 3 = t_dots
  · simp -implicitDefEqProofs [hx, h1, hz', ha', e4, h2]
  by_cases h3 : c = 36
  · subst h3
    by_cases h4 : nameBad (nmOf t (a + 1)) = true
    · simp -implicitDefEqProofs [hx, h1, hz', ha', e4, h2, hmd, d36, e1, h4, hwf, hfw]
    · by_cases h5 : nmOf t (a + 1) = t_meta
      · simp -implicitDefEqProofs [hx, h1, hz', ha', e4, h2, hmd, d36, e1, h4, h5, hmm, hwf, hfw]
      · simp -implicitDefEqProofs [hx, h1, hz', ha', e4, h2, hmd, d36, e1, h4, h5, hwf, hfw]
  by_cases h6 : c = 34
  · subst h6
    by_cases h7 : strGood t a
    · have no10 : ¬ (10 ∈ (t.drop a).take (a + 1 + sLen t a - a)) := fun hm => by
        obtain ⟨i, hi, he⟩ := List.mem_iff_getElem.mp hm
        rw [List.length_take, List.length_drop] at hi
        rw [List.getElem_take, List.getElem_drop] at he
        have h10 : t[a + i]? = some 10 := by rw [List.getElem?_eq_getElem (by omega), he]
        cases i with
        | zero => rw [Nat.add_zero, hc] at h10; cases h10
        | succ i =>
          obtain ⟨d, q1, q2, q3⟩ := str_in (t.drop (a + 1)) i (by unfold sLen at hi; omega)
          rw [List.getElem?_drop, show a + 1 + i = a + (i + 1) by omega, h10] at q1
          cases q1
          exact q3 rfl
      have hf := fun I => find_good h7 I
      simp -implicitDefEqProofs [hx, h1, hz', ha', ha1, e4, h2, hf, h7, no10, s2]
    · rcases find_bad ha h7 [] with _ | ⟨q, _, hq⟩
      · have hf : ∀ I, findD (.str t) [.str [34], nI (a + 1)] I = .ok (.int (-1)) I ∨ ∃ q, findD (.str t) [.str [34], nI (a + 1)] I = .ok (nI q) I ∧ 10 ∈ (t.drop a).take (q - a) := fun I => find_bad ha h7 I
        rcases hf I with hf | ⟨q, hf, hq⟩
        · simp -implicitDefEqProofs [hx, h1, hz', ha', ha1, e4, h2, hf, h7]
        · simp -implicitDefEqProofs [hx, h1, hz', ha', ha1, e4, h2, hf, h7, hq]
      · rcases find_bad ha h7 I with hf | ⟨q, hf, hq⟩
        · simp -implicitDefEqProofs [hx, h1, hz', ha', ha1, e4, h2, hf, h7]
        · simp -implicitDefEqProofs [hx, h1, hz', ha', ha1, e4, h2, hf, h7, hq]
  by_cases h8 : c = 45
  · subst h8
    by_cases h9 : numLen t (a + 1) = 0
    · simp -implicitDefEqProofs [hx, h1, hz', ha', ha1, e4, h2, hmd, key, h9]
    · by_cases h9' : 10 < numLen t (a + 1)
      · simp -implicitDefEqProofs [hx, h1, hz', ha', ha1, e4, h2, hmd, key, h9, h9', e10]
      · have e5 : numVal t (a + 1) - 2 * numVal t (a + 1) = - numVal t (a + 1) := by omega
        simp -implicitDefEqProofs [hx, h1, hz', ha', ha1, e4, h2, hmd, key, h9, h9', e10, n2, num_int h9 h9', o_mul2, e5]
  have b45 : (c == 45) = false := beq_eq_false_iff_ne.mpr h8
  have b36 : (c == 36) = false := beq_eq_false_iff_ne.mpr h3
  by_cases h10 : c ∈ t_dig
  · by_cases h9 : numLen t a = 0
    · simp -implicitDefEqProofs [hx, h1, hz', ha', ha1, e4, h2, h3, h6, h8, h10, b45, b36, hmd, key, h9]
    · by_cases h9' : 10 < numLen t a
      · simp -implicitDefEqProofs [hx, h1, hz', ha', ha1, e4, h2, h3, h6, h8, h10, b45, b36, hmd, key, h9, h9', e10]
      · simp -implicitDefEqProofs [hx, h1, hz', ha', ha1, e4, h2, h3, h6, h8, h10, b45, b36, hmd, key, h9, h9', e10, n2, num_int h9 h9', o_mul2]
  · by_cases h4 : nameBad (nmOf t a) = true
    · simp -implicitDefEqProofs [hx, h1, hz', ha', ha1, e4, h2, h3, h6, h8, h10, b45, b36, hmd, e0, h4, hwf, hfw]
    · simp -implicitDefEqProofs [hx, h1, hz', ha', ha1, e4, h2, h3, h6, h8, h10, b45, b36, hmd, e0, h4, hwf, hfw]
end K07
namespace K07
open PySem PySem.Spec L2 MP
theorem nmLen_le {t : List Nat} {a : Nat} : nmLen t a ≤ t.length - a := by
  have := run_le t_NAM (t.drop a)
  rw [List.length_drop] at this
  exact this
theorem bad_zero {t : List Nat} {a : Nat} (h : nmLen t a = 0) : nameBad (nmOf t a) = true := by
  unfold nmOf
  rw [h]
  rfl
/-- what a word is: the number's kind with an int, another kind with a text of the text's characters -/
def WordOk (t : List Nat) (k : List Nat) (w : D) : Prop := (k = t_number ∧ ∃ z, w = .int z) ∨ (k ≠ t_number ∧ ∃ s, w = .str s ∧ ∀ c ∈ s, c ∈ t ∨ c < 128)
theorem word_spec {t : List Nat} {a : Nat} (ha : a < t.length) {k : List Nat} {w : D} {e : Nat} (h : word t a = some (k, w, e)) : a < e ∧ e ≤ t.length ∧ WordOk t k w := by
  have sub : ∀ (n b : Nat), ∀ c ∈ (t.drop b).take n, c ∈ t ∨ c < 128 := fun n b c hc => .inl (List.mem_of_mem_drop (List.mem_of_mem_take hc))
  unfold word at h
  dsimp only at h
  split at h
  · rename_i hs
    cases h
    refine ⟨by omega, by omega, .inr ⟨by decide, _, rfl, fun c hc => .inr ?_⟩⟩
    have all : ∀ c ∈ t_SIG, c < 128 := by decide
    rw [List.mem_singleton] at hc
    rw [hc]
    exact all _ hs
  split at h
  · rename_i _ hd
    cases h
    have hl : ((t.drop a).take 3).length = 3 := by rw [hd]; rfl
    rw [List.length_take, List.length_drop] at hl
    refine ⟨by omega, by omega, .inr ⟨by decide, _, rfl, fun c hc => .inr ?_⟩⟩
    have all : ∀ c ∈ t_dots, c < 128 := by decide
    exact all c hc
  split at h
  · split at h
    · cases h
    · cases h
      have := nmLen_le (t := t) (a := a + 1)
      exact ⟨by omega, by omega, .inr ⟨by decide, _, rfl, sub _ _⟩⟩
  split at h
  · split at h
    · rename_i hg
      cases h
      have hlt : a + 1 + sLen t a < t.length := (List.getElem?_eq_some_iff.mp hg).1
      exact ⟨by omega, by omega, .inr ⟨by decide, _, rfl, sub _ _⟩⟩
    · cases h
  split at h
  · have key : ∀ b, (b = a + 1 ∨ b = a) → ∀ z, (if numLen t b = 0 ∨ 10 < numLen t b then none else some (t_number, D.int z, b + numLen t b)) = some (k, w, e) → a < e ∧ e ≤ t.length ∧ WordOk t k w := by
      intro b hb z hh
      have h1 := num_le (t := t) (b := b)
      split at hh
      · cases hh
      · rename_i hn
        cases hh
        have h0 : numLen t b ≠ 0 := fun z => hn (.inl z)
        exact ⟨by omega, by omega, .inl ⟨rfl, _, rfl⟩⟩
    by_cases h45 : t.getD a 0 = 45
    · simp only [if_pos h45] at h
      exact key (a + 1) (.inl rfl) _ h
    · simp only [if_neg h45] at h
      exact key a (.inr rfl) _ h
  · split at h
    · cases h
    · rename_i hn
      cases h
      have h0 : nmLen t a ≠ 0 := fun z => hn (bad_zero z)
      have := nmLen_le (t := t) (a := a)
      exact ⟨by omega, by omega, .inr ⟨by decide, _, rfl, sub _ _⟩⟩
/-- the words from a place -/
def split : Nat → List Nat → Nat → List D → Nat ⊕ List D
  | 0, _, _, acc => .inr acc
  | n + 1, t, a, acc => if a < t.length then (match word t a with
      | none => .inl a
      | some (k, w, e) => split n t (e + runLen t_BLA (t.drop e)) (acc ++ [.tup [nI a, .str k, w]])) else .inr acc
/-- what stands in the words -/
def WItem (t : List Nat) (d : D) : Prop := ∃ a k w, d = .tup [nI a, .str k, w] ∧ WordOk t k w ∧ (∀ c ∈ k, c < 128)
theorem kind_small {t : List Nat} {a : Nat} {k : List Nat} {w : D} {e : Nat} (h : word t a = some (k, w, e)) : ∀ c ∈ k, c < 128 := by
  have all : ∀ k ∈ [t_sign, t_variable, t_text, t_number, t_name], ∀ c ∈ k, c < 128 := by decide
  have hk : k ∈ [t_sign, t_variable, t_text, t_number, t_name] := by
    unfold word at h
    dsimp only at h
    (repeat' split at h) <;> first | (cases h; done) | (cases h; simp)
  exact all k hk
theorem item_under {t : List Nat} {d : D} {n : Nat} (h : WItem t d) : d.under n = true := by
  obtain ⟨a, k, w, rfl, hw, _⟩ := h
  rcases hw with ⟨_, z, rfl⟩ | ⟨_, s, rfl, _⟩ <;> simp
theorem items_under {t : List Nat} {n : Nat} : ∀ {xs : List D}, (∀ d ∈ xs, WItem t d) → unders n xs = true
  | [], _ => unders0
  | x :: xs, h => by
    rw [unders1, item_under (h x List.mem_cons_self), items_under fun d hd => h d (List.mem_cons_of_mem _ hd)]
    rfl
theorem next_le {t : List Nat} {e : Nat} (h : e ≤ t.length) : e + runLen t_BLA (t.drop e) ≤ t.length := by
  have := run_le t_BLA (t.drop e)
  rw [List.length_drop] at this
  omega
theorem split_items {t : List Nat} : ∀ (n a : Nat) (acc xs : List D), (∀ d ∈ acc, WItem t d) → split n t a acc = .inr xs → ∀ d ∈ xs, WItem t d
  | 0, a, acc, xs, h, e => by
    unfold split at e
    cases e
    exact h
  | n + 1, a, acc, xs, h, e => by
    unfold split at e
    split at e
    · rename_i ha
      cases hw : word t a with
      | none => rw [hw] at e; cases e
      | some q =>
        obtain ⟨k, w, e2⟩ := q
        rw [hw] at e
        refine split_items n _ _ xs (fun d hd => ?_) e
        rcases List.mem_append.mp hd with hd | hd
        · exact h d hd
        · rw [List.mem_singleton] at hd
          rw [hd]
          exact ⟨a, k, w, rfl, (word_spec ha hw).2.2, kind_small hw⟩
    · cases e
      exact h
end K07
namespace K07
open PySem PySem.Spec L2 MP
noncomputable def swT : TF := (boolE (bin2 ltS (getV 2) (bltE lenD [(getV 0)])))
noncomputable def swB : SF := (seqS (asgS (callE 2 F_read_word [(getV 0), (getV 2)]) (tupT [3, 4, 5])) (seqS (exprS (methE isLst appendD (getV 1) [(tupE [(getV 2), (getV 3), (getV 4)])])) (seqS (asgS (callE 3 F_run_end [(getV 0), (getV 5), (cV (.str t_BLA))]) (nameT 2)) nxS)))
theorem split_done {t : List Nat} {a : Nat} (h : t.length ≤ a) {acc : List D} : ∀ n, split n t a acc = .inr acc
  | 0 => rfl
  | n + 1 => by unfold split; rw [if_neg (by omega)]
theorem sw_loop {t : List Nat} (hz : t.length ≤ 1000000) (I : MH) : ∀ (n a : Nat) (acc : List D) (f : Nat) (x3 x4 x5 : Option D), t.length - a ≤ n → a ≤ t.length → n < f → acc.length + n ≤ 2000000 →
    (∃ p c, split n t a acc = .inl p ∧ whileN swT swB f [some (.str t), some (.loc I.length), some (nI a), x3, x4, x5] (I ++ [.lst acc]) = .err (doc p) (I ++ [c])) ∨
    (∃ ws a' y3 y4 y5, split n t a acc = .inr ws ∧ whileN swT swB f [some (.str t), some (.loc I.length), some (nI a), x3, x4, x5] (I ++ [.lst acc]) = .nx [some (.str t), some (.loc I.length), some (nI a'), y3, y4, y5] (I ++ [.lst ws])) := by
  have hz' : t.length ≤ 16777216 := by omega
  intro n
  induction n with
  | zero =>
    intro a acc f x3 x4 x5 h1 h2 h3 h4
    obtain ⟨f, rfl⟩ : ∃ k, f = k + 1 := ⟨f - 1, by omega⟩
    have hn : ¬ a < t.length := by omega
    exact .inr ⟨acc, a, x3, x4, x5, rfl, while_no (I1 := I ++ [.lst acc]) (by simp -implicitDefEqProofs [swT, hz', hn])⟩
  | succ n ih =>
    intro a acc f x3 x4 x5 h1 h2 h3 h4
    obtain ⟨f, rfl⟩ : ∃ k, f = k + 1 := ⟨f - 1, by omega⟩
    by_cases ha : a < t.length
    · have ht : swT [some (.str t), some (.loc I.length), some (nI a), x3, x4, x5] (I ++ [.lst acc]) = .ok true (I ++ [.lst acc]) := by simp -implicitDefEqProofs [swT, hz', ha]
      have hw := fun J => read_word_ok hz ha J
      cases hs : word t a with
      | none =>
        rw [hs] at hw
        dsimp only at hw
        refine .inl ⟨a, .lst acc, by unfold split; rw [if_pos ha, hs], while_err ht ?_⟩
        simp -implicitDefEqProofs [swB, hw]
      | some q =>
        obtain ⟨k, w, e⟩ := q
        rw [hs] at hw
        dsimp only at hw
        obtain ⟨e1, e2, _⟩ := word_spec ha hs
        have hr := fun J => run_end_ok (sg := t_BLA) hz e2 J
        have hsp : split (n + 1) t a acc = split n t (e + runLen t_BLA (t.drop e)) (acc ++ [.tup [nI a, .str k, w]]) := by
          show (if a < t.length then _ else _) = _
          rw [if_pos ha, hs]
        have hl : acc.length < 16777216 := by omega
        have hb : swB [some (.str t), some (.loc I.length), some (nI a), x3, x4, x5] (I ++ [.lst acc]) = .nx [some (.str t), some (.loc I.length), some (nI (e + runLen t_BLA (t.drop e))), some (.str k), some w, some (nI e)] (I ++ [.lst (acc ++ [.tup [nI a, .str k, w]])]) := by
          simp -implicitDefEqProofs [swB, hw, hr, o_isLst (new_get (I := I) (c := .lst acc)), o_append (new_get (I := I) (c := .lst acc)) hl]
        rw [hsp, while_nx ht hb]
        exact ih _ _ f _ _ _ (by have := e1; omega) (next_le e2) (by omega) (by rw [List.length_append]; simp; omega)
    · refine .inr ⟨acc, a, x3, x4, x5, split_done (by omega) _, while_no (I1 := I ++ [.lst acc]) (by simp -implicitDefEqProofs [swT, hz', ha])⟩
def start (t : List Nat) : Nat := runLen t_BLA t
def words (t : List Nat) : Nat ⊕ List D := split t.length t (start t) []
theorem start_le (t : List Nat) : start t ≤ t.length := run_le t_BLA t
theorem words_items {t : List Nat} {ws : List D} (h : words t = .inr ws) : ∀ d ∈ ws, WItem t d := split_items _ _ _ _ (fun d hd => by cases hd) h
theorem split_words_ok {t : List Nat} (hz : t.length ≤ 1000000) (I : MH) : F_split_words [.str t] I = match words t with
    | .inl p => .err (doc p) I
    | .inr ws => .ok (.lst ws) I := by
  have hz' : t.length ≤ 16777216 := by omega
  have hr : ∀ J, F_run_end [.str t, .int 0, .str t_BLA] J = .ok (nI (start t)) J := fun J => by
    have := run_end_ok (sg := t_BLA) (a := 0) hz (Nat.zero_le _) J
    rw [Nat.zero_add, List.drop_zero] at this
    exact this
  have hsp : words t = split t.length t (start t) [] := rfl
  have main := sw_loop hz I t.length (start t) [] whileFuel none none none (by omega) (start_le t) (by unfold whileFuel; omega) (by simp; omega)
  unfold F_split_words b_split_words
  rw [run_def]
  change endD I (seqS _ (seqS _ (seqS (whileS swT swB) _)) _ _) = _
  rcases main with ⟨p, c, h1, h2⟩ | ⟨ws, a', y3, y4, y5, h1, h2⟩
  · rw [hsp, h1]
    have ht : trim I (nI p) (I ++ [c]) = I := trim_app (by simp)
    simp -implicitDefEqProofs [hr, whileS, h2, doc, ht]
  · have hu := items_under (n := I.length) (words_items (hsp.trans h1))
    rw [hsp, h1]
    have hf := fin_new (I := I) hu
    simp -implicitDefEqProofs [hr, whileS, h2, hf]
/-! the law's own -/
noncomputable def lsB : SF := (seqS (ifS (boolE (bin2 ltS (getV 2) (bltE lenD [(getV 0)]))) (seqS (asgS (callE 2 F_l_word_at [(getV 0), (getV 2)]) (nameT 4)) (seqS (ifS (boolE (bin2 eqD (bin2 ixDD (getV 4) (cV (.int 0))) (cV (.str t_fault)))) (seqS (retS (tupE [(cV (.str t_fault)), (bin2 ixDD (getV 4) (cV (.int 1)))])) nxS) nxS) (seqS (exprS (methE isLst appendD (getV 1) [(bin2 addD (tupE [(getV 2)]) (bin2 ixDD (getV 4) (cV (.int 1))))])) (seqS (asgS (callE 3 F_l_run [(getV 0), (bin2 ixDD (getV 4) (cV (.int 2))), (cV (.str t_BLA))]) (nameT 2)) nxS)))) nxS) nxS)
theorem ls_loop {t : List Nat} (hz : t.length ≤ 1000000) (I : MH) (L : List D) : ∀ (n j a : Nat) (acc : List D) (x3 x4 : Option D), t.length - j = n → a ≤ t.length → acc.length + n ≤ 2000000 →
    (∃ p c, split n t a acc = .inl p ∧ forL ⟨L, none⟩ (nameT 3) lsB (upTo j t.length) [some (.str t), some (.loc I.length), some (nI a), x3, x4] (I ++ [.lst acc]) = .ret (.tup [.str t_fault, nI p]) (I ++ [c])) ∨
    (∃ ws a' y3 y4, split n t a acc = .inr ws ∧ forL ⟨L, none⟩ (nameT 3) lsB (upTo j t.length) [some (.str t), some (.loc I.length), some (nI a), x3, x4] (I ++ [.lst acc]) = .nx [some (.str t), some (.loc I.length), some (nI a'), y3, y4] (I ++ [.lst ws])) := by
  have hz' : t.length ≤ 16777216 := by omega
  have hwf : ¬ t_word = t_fault := by decide
  intro n
  induction n with
  | zero =>
    intro j a acc x3 x4 h1 h2 h4
    rw [upTo_nil (by omega)]
    exact .inr ⟨acc, a, x3, x4, rfl, for_nil⟩
  | succ n ih =>
    intro j a acc x3 x4 h1 h2 h4
    rw [upTo_cons (by omega)]
    by_cases ha : a < t.length
    · have hw := fun J => l_word_ok hz ha J
      cases hs : word t a with
      | none =>
        rw [hs] at hw
        dsimp only at hw
        refine .inl ⟨a, .lst acc, by unfold split; rw [if_pos ha, hs], for_ret (I1 := I ++ [.lst acc]) (ρ1 := [some (.str t), some (.loc I.length), some (nI a), some (nI j), x4]) (by simp -implicitDefEqProofs) ?_⟩
        simp -implicitDefEqProofs [lsB, hw, hz', ha]
      | some q =>
        obtain ⟨k, w, e⟩ := q
        rw [hs] at hw
        dsimp only at hw
        obtain ⟨e1, e2, _⟩ := word_spec ha hs
        have hr := fun J => l_run_ok (sg := t_BLA) hz e2 J
        have hsp : split (n + 1) t a acc = split n t (e + runLen t_BLA (t.drop e)) (acc ++ [.tup [nI a, .str k, w]]) := by
          show (if a < t.length then _ else _) = _
          rw [if_pos ha, hs]
        have hl : acc.length < 16777216 := by omega
        have hb : lsB [some (.str t), some (.loc I.length), some (nI a), some (nI j), x4] (I ++ [.lst acc]) = .nx [some (.str t), some (.loc I.length), some (nI (e + runLen t_BLA (t.drop e))), some (nI j), some (.tup [.str t_word, .tup [.str k, w], nI e])] (I ++ [.lst (acc ++ [.tup [nI a, .str k, w]])]) := by
          simp -implicitDefEqProofs [lsB, hw, hz', ha, hwf, hr, o_isLst (new_get (I := I) (c := .lst acc)), o_append (new_get (I := I) (c := .lst acc)) hl]
        rw [hsp, for_nx (I1 := I ++ [.lst acc]) (ρ1 := [some (.str t), some (.loc I.length), some (nI a), some (nI j), x4]) (by simp -implicitDefEqProofs) hb]
        exact ih _ _ _ _ _ (by omega) (next_le e2) (by rw [List.length_append]; simp; omega)
    · have hb : lsB [some (.str t), some (.loc I.length), some (nI a), some (nI j), x4] (I ++ [.lst acc]) = .nx [some (.str t), some (.loc I.length), some (nI a), some (nI j), x4] (I ++ [.lst acc]) := by
        simp -implicitDefEqProofs [lsB, hz', ha]
      rw [split_done (by omega), for_nx (I1 := I ++ [.lst acc]) (ρ1 := [some (.str t), some (.loc I.length), some (nI a), some (nI j), x4]) (by simp -implicitDefEqProofs) hb]
      have := ih (j + 1) a acc (some (nI j)) x4 (by omega) h2 (by omega)
      rw [split_done (by omega)] at this
      exact this
def told (t : List Nat) : D := match words t with
  | .inl p => .tup [.str t_fault, nI p]
  | .inr ws => .tup [.str t_words, .lst ws]
theorem l_split_ok {t : List Nat} (hz : t.length ≤ 1000000) (I : MH) : F_l_split [.str t] I = .ok (told t) I := by
  have hz' : t.length ≤ 16777216 := by omega
  have hr : ∀ J, F_l_run [.str t, .int 0, .str t_BLA] J = .ok (nI (start t)) J := fun J => by
    have := l_run_ok (sg := t_BLA) (a := 0) hz (Nat.zero_le _) J
    rw [Nat.zero_add, List.drop_zero] at this
    exact this
  have hsp : words t = split t.length t (start t) [] := rfl
  have main := ls_loop hz I (upTo 0 t.length) t.length 0 (start t) [] none none (by omega) (start_le t) (by simp; omega)
  unfold F_l_split b_l_split told
  rw [run_def]
  change endD I (seqS _ (seqS _ (seqS (forS _ _ lsB) _)) _ _) = _
  rcases main with ⟨p, c, h1, h2⟩ | ⟨ws, a', y3, y4, h1, h2⟩
  · rw [hsp, h1]
    have ht : trim I (.tup [.str t_fault, nI p]) (I ++ [c]) = I := trim_app (by simp)
    simp -implicitDefEqProofs [hr, hz', h2, ht]
  · have hu := items_under (n := I.length) (words_items (hsp.trans h1))
    rw [hsp, h1]
    have hf := fin_tnew (I := I) (s := t_words) hu
    simp -implicitDefEqProofs [hr, hz', h2, hf]
end K07
/-! K07V: the parser's cell and its small methods -/
namespace K07
open PySem PySem.Spec L2 MP
def pcell (ws : List D) (e a : Nat) : Cell := .ins "Parser" [("words", .lst ws), ("end", nI e), ("at", nI a)]
/-- the heap I whose place n holds a parser -/
def st (I : MH) (n : Nat) (ws : List D) (e a : Nat) : MH := I.set n (pcell ws e a)
section
variable {I : MH} {n e a b : Nat} {ws : List D} {ρ : En}
@[simp] theorem st_len : (st I n ws e a).length = I.length := by simp [st]
theorem st_get (h : n < I.length) : (st I n ws e a)[n]? = some (pcell ws e a) := by simp [st, h]
@[simp] theorem st_set : (st I n ws e a).set n (pcell ws e b) = st I n ws e b := by simp [st]
theorem st_app (h : n < I.length) {J : MH} : st I n ws e a ++ J = st (I ++ J) n ws e a := by
  unfold st
  rw [List.set_append_left _ _ h]
theorem ins_st (h : n < I.length) : insOf (st I n ws e a) (.loc n) = some (n, ("Parser" : Str), [(("words" : Str), D.lst ws), (("end" : Str), nI e), (("at" : Str), nI a)]) := by
  unfold insOf
  dsimp only
  rw [st_get h]
  rfl
theorem at_words (h : n < I.length) : attrV T_cls "words" (.loc n) (st I n ws e a) = .ok (.lst ws) (st I n ws e a) := by
  unfold attrV
  rw [ins_st h]
  rfl
theorem at_end (h : n < I.length) : attrV T_cls "end" (.loc n) (st I n ws e a) = .ok (nI e) (st I n ws e a) := by
  unfold attrV
  rw [ins_st h]
  rfl
theorem at_at (h : n < I.length) : attrV T_cls "at" (.loc n) (st I n ws e a) = .ok (nI a) (st I n ws e a) := by
  unfold attrV
  rw [ins_st h]
  rfl
theorem set_at (h : n < I.length) : setA T_cls "at" (.loc n) (nI b) (st I n ws e a) = .ok () (st I n ws e b) := by
  unfold setA
  rw [ins_st h]
  show Res.ok () ((st I n ws e a).set n (pcell ws e b)) = _
  rw [st_set]
theorem e_attr {m : Str} {f : EF} : attrE T_cls m f ρ I = (f ρ I).bind fun x I1 => attrV T_cls m x I1 := rfl
theorem e_and {f g : EF} : andE f g ρ I = (f ρ I).bind fun x I1 => match x with
  | .bl true => g ρ I1
  | .bl false => .ok (.bl false) I1
  | _ => .stuck := rfl
end
/-- a word: its place, its kind, what it is -/
structure Wd where
  p : Nat
  k : List Nat
  w : D
def Wd.d (x : Wd) : D := .tup [nI x.p, .str x.k, x.w]
/-- a word that compares -/
structure Gd (x : Wd) : Prop where
  k : PyData.strOk (toS x.k) = true
  w : (∃ z, x.w = .int z) ∨ ∃ s, x.w = .str s ∧ PyData.strOk (toS s) = true
  nm : x.k ≠ t_number → ∃ s, x.w = .str s ∧ PyData.strOk (toS s) = true
def Gds (l : List Wd) : Prop := ∀ x ∈ l, Gd x
def isP (l : List Wd) (a : Nat) (k w : List Nat) : Bool := match l[a]? with
  | some x => (x.k == k) && (eqvD x.w (.str w))
  | none => false
def kindP (l : List Wd) (a : Nat) (k : List Nat) : Bool := match l[a]? with
  | some x => x.k == k
  | none => false
def wdP (l : List Wd) (a : Nat) : D := match l[a]? with
  | some x => x.w
  | none => .non
def ds (l : List Wd) : List D := l.map Wd.d
section
variable {I : MH} {l : List Wd} {a : Nat}
theorem ds_len : (ds l).length = l.length := by simp [ds]
theorem ds_get {x : Wd} (h : l[a]? = some x) : (ds l)[a]? = some x.d := by simp [ds, h]
theorem ds_ix {x : Wd} (h : l[a]? = some x) : ixD (.lst (ds l)) (nI a) I = .ok x.d I := o_ixln (ds_get h)
theorem wd1 {x : Wd} : ixD x.d (.int 1) I = .ok (.str x.k) I := rfl
theorem wd2 {x : Wd} : ixD x.d (.int 2) I = .ok x.w I := rfl
theorem wd0 {x : Wd} : ixD x.d (.int 0) I = .ok (nI x.p) I := rfl
theorem wd_dd {x : Wd} {y : D} : ixDD x.d y I = ixD x.d y I := rfl
theorem wd_sl {x : Wd} : slD x.d (some 1) none I = .ok (.tup [.str x.k, x.w]) I := rfl
theorem eq_str {s u : List Nat} : eqD (.str s) (.str u) I = .ok (.bl (s == u)) I := rfl
theorem eq_pair {x : Wd} (g : Gd x) {k w : List Nat} (hk : PyData.strOk (toS k) = true) (hw : PyData.strOk (toS w) = true) : eqD (.tup [.str x.k, x.w]) (.tup [.str k, .str w]) I = .ok (.bl ((x.k == k) && eqvD x.w (.str w))) I := by
  have h1 : shp 63 x.w = true := by
    rcases g.w with ⟨z, e⟩ | ⟨s, e, h⟩
    · rw [e]; rfl
    · rw [e]; exact h
  have h2 : cmpable (.tup [.str x.k, x.w]) (.tup [.str k, .str w]) = true := by
    unfold cmpable
    have e1 : shp 64 (.tup [.str x.k, x.w]) = true := by simp [shp, shps, g.k, h1]
    have e2 : shp 64 (.tup [.str k, .str w]) = true := by simp [shp, shps, hk, hw]
    rw [e1, e2]; simp
  unfold eqD
  rw [if_pos h2]
  simp [eqvD, eqvDs]
end
end K07
/-! K07W: the small methods and readers -/
namespace K07
open PySem PySem.Spec L2 MP
section
variable {I : MH} {n e a : Nat} {l : List Wd}
theorem o_lenl {xs : List D} : lenD [.lst xs] I = .ok (nI xs.length) I := rfl
theorem is_kind_ok (hn : n < I.length) (hl : l.length ≤ 1000000) (k : List Nat) : F_Parser_is_kind [.loc n, .str k] (st I n (ds l) e a) = .ok (.bl (kindP l a k)) (st I n (ds l) e a) := by
  unfold F_Parser_is_kind b_Parser_is_kind
  rw [run_def]
  have hz : (ds l).length ≤ 16777216 := by rw [ds_len]; omega
  by_cases h : a < l.length
  · have hx : l[a]? = some l[a] := List.getElem?_eq_getElem h
    simp -implicitDefEqProofs [e_attr, e_and, at_at hn, at_words hn, hz, ds_len, h, ds_ix hx, wd1, wd_dd, eq_str, kindP, hx, o_lenl]
  · simp -implicitDefEqProofs [e_attr, e_and, at_at hn, at_words hn, hz, ds_len, h, kindP, o_lenl]
theorem Gds.get (h : Gds l) {x : Wd} (hx : l[a]? = some x) : Gd x := h x (List.mem_of_getElem? hx)
abbrev okS (k : List Nat) : Prop := PyData.strOk (toS k) = true
theorem is_next_ok (g : Gds l) (hn : n < I.length) (hl : l.length ≤ 1000000) {k w : List Nat} (hk : okS k) (hw : okS w) : F_Parser_is_next [.loc n, .str k, .str w] (st I n (ds l) e a) = .ok (.bl (isP l a k w)) (st I n (ds l) e a) := by
  unfold F_Parser_is_next b_Parser_is_next
  rw [run_def]
  by_cases h : a < l.length
  · have hx : l[a]? = some l[a] := List.getElem?_eq_getElem h
    simp -implicitDefEqProofs [e_attr, e_and, at_at hn, at_words hn, ds_len, h, ds_ix hx, wd_sl, eq_pair (g.get hx) hk hw, isP, hx, o_lenl]
  · simp -implicitDefEqProofs [e_attr, e_and, at_at hn, at_words hn, ds_len, h, isP, o_lenl]
theorem l_is_ok (g : Gds l) {k w : List Nat} (hk : okS k) (hw : okS w) : F_l_is [.lst (ds l), nI a, .str k, .str w] I = .ok (.bl (isP l a k w)) I := by
  unfold F_l_is b_l_is
  rw [run_def]
  by_cases h : a < l.length
  · have hx : l[a]? = some l[a] := List.getElem?_eq_getElem h
    simp -implicitDefEqProofs [e_and, ds_len, h, ds_ix hx, wd_sl, eq_pair (g.get hx) hk hw, isP, hx, o_lenl]
  · simp -implicitDefEqProofs [e_and, ds_len, h, isP, o_lenl]
theorem l_kind_ok {k : List Nat} : F_l_kind_at [.lst (ds l), nI a, .str k] I = .ok (.bl (kindP l a k)) I := by
  unfold F_l_kind_at b_l_kind_at
  rw [run_def]
  by_cases h : a < l.length
  · have hx : l[a]? = some l[a] := List.getElem?_eq_getElem h
    simp -implicitDefEqProofs [e_and, ds_len, h, ds_ix hx, wd1, wd_dd, eq_str, kindP, hx, o_lenl]
  · simp -implicitDefEqProofs [e_and, ds_len, h, kindP, o_lenl]
/-- where a fault is -/
def placeP (l : List Wd) (e a : Nat) : Nat := match l[a]? with
  | some x => x.p
  | none => e
theorem fail_ok (hn : n < I.length) : F_Parser_fail [.loc n] (st I n (ds l) e a) = .err (doc (placeP l e a)) (st I n (ds l) e a) := by
  unfold F_Parser_fail b_Parser_fail
  rw [run_def]
  by_cases h : a < l.length
  · have hx : l[a]? = some l[a] := List.getElem?_eq_getElem h
    simp -implicitDefEqProofs [e_attr, at_at hn, at_words hn, at_end hn, ds_len, h, ds_ix hx, wd0, wd_dd, placeP, hx, o_lenl, doc]
  · simp -implicitDefEqProofs [e_attr, at_at hn, at_words hn, at_end hn, ds_len, h, placeP, o_lenl, doc]
end
end K07
/-! K07X: take, skip and the like -/
namespace K07
open PySem PySem.Spec L2 MP
section
variable {I J : MH} {n e a b : Nat} {l : List Wd} {ρ : En}
theorem strOk_of {s : List Nat} (h : ∀ c ∈ s, c < 128) : PyData.strOk (toS s) = true := by
  unfold PyData.strOk toS
  rw [← Array.all_toList]
  exact List.all_eq_true.mpr fun c hc => decide_eq_true (by have := h c hc; omega)
theorem cm_st {mt : Mtt} {m : Str} {k : Nat} {F : FF} {f : EF} {fs : List EF} {xs : List D} {ws : List D} (hn : n < I.length) (hf : f ρ (st I n ws e a) = .ok (.loc n) (st I n ws e a)) (hl : mt.lookup (("Parser" : Str), m) = some (k, F)) (hg : (m != "words" && m != "end" && m != "at") = true)
    (ha : seqA fs ρ (st I n ws e a) = .ok xs J) (hk : xs.length + 1 = k) : callM mt m f fs ρ (st I n ws e a) = F (.loc n :: xs) J := by
  unfold callM
  rw [hf]
  dsimp only [Res.bind]
  rw [ins_st hn]
  dsimp only
  rw [hl]
  dsimp only
  have hg' : (List.lookup m [(("words" : Str), D.lst ws), (("end" : Str), nI e), (("at" : Str), nI a)]).isNone = true := by
    simp only [Bool.and_eq_true, bne_iff_ne, ne_eq] at hg
    have h1 : (m == ("words" : Str)) = false := beq_eq_false_iff_ne.mpr hg.1.1
    have h2 : (m == ("end" : Str)) = false := beq_eq_false_iff_ne.mpr hg.1.2
    have h3 : (m == ("at" : Str)) = false := beq_eq_false_iff_ne.mpr hg.2
    simp only [List.lookup, h1, h2, h3]
    rfl
  rw [if_pos hg', ha]
  dsimp only [Res.bind]
  rw [if_pos hk]
theorem trim_st (hn : n < I.length) {d : D} (h : d.under I.length = true) (hu : unders I.length (ds l) = true) (J : MH) : trim (st I n (ds l) e a) d (st (I ++ J) n (ds l) e b) = st I n (ds l) e b := by
  rw [← st_app hn]
  have key : Tidy (st I n (ds l) e a).length (st I n (ds l) e a) (st I n (ds l) e b ++ J) := fun i c hi hc => by
    rw [st_len] at hi
    by_cases hin : i = n
    · subst hin
      right
      rw [List.getElem?_append_left (by rw [st_len]; exact hn), st_get hn] at hc
      cases hc
      simp [pcell, Cell.under, D.under, hu]
    · left
      rw [List.getElem?_append_left (by rw [st_len]; exact hi)] at hc
      unfold st at hc ⊢
      rw [List.getElem?_set_ne (Ne.symm hin)] at hc ⊢
      exact hc
  unfold trim
  rw [if_pos ⟨by rw [st_len]; exact h, key⟩]
  have e1 : (st I n (ds l) e a).length = (st I n (ds l) e b).length := by rw [st_len, st_len]
  rw [e1, List.take_left]
theorem gds_under {m : Nat} : ∀ {l : List Wd}, Gds l → unders m (ds l) = true
  | [], _ => rfl
  | x :: l, g => by
    have h1 := gds_under (m := m) (l := l) fun y hy => g y (List.mem_cons_of_mem _ hy)
    have h2 : x.w.under m = true := by
      rcases (g x List.mem_cons_self).w with ⟨z, h⟩ | ⟨s, h, _⟩ <;> rw [h] <;> simp
    show unders m (x.d :: ds l) = true
    simp [unders, D.under, Wd.d, h1, h2]
/-- what a plain reading finds: the place that does not fit, or a value and the place behind it -/
abbrev PR := Sum Nat (D × Nat)
def PR.r (l : List Wd) (I : MH) (n e : Nat) : PR → Res D
  | .inl b => .err (doc (placeP l e b)) (st I n (ds l) e b)
  | .inr (v, c) => .ok v (st I n (ds l) e c)
def PR.t : PR → D
  | .inl b => .tup [.str t_bad, nI b]
  | .inr (v, c) => .tup [.str t_ok, v, nI c]
def takeP (l : List Wd) (a : Nat) (k : List Nat) : PR := if kindP l a k then .inr (wdP l a, a + 1) else .inl a
def skipP (l : List Wd) (a : Nat) (k w : List Nat) : PR := if isP l a k w then .inr (.non, a + 1) else .inl a
/-- a parser at n -/
structure Pr (I : MH) (n : Nat) (l : List Wd) : Prop where
  hn : n < I.length
  hl : l.length ≤ 1000000
  hg : Gds l
theorem Pr.u (h : Pr I n l) {m : Nat} : unders m (ds l) = true := gds_under h.hg
theorem Pr.app (h : Pr I n l) : Pr (I ++ J) n l := ⟨by rw [List.length_append]; have := h.hn; omega, h.hl, h.hg⟩
theorem kind_some {k : List Nat} (h : kindP l a k = true) : ∃ x, l[a]? = some x ∧ wdP l a = x.w := by
  unfold kindP at h
  unfold wdP
  split at h
  · next x hx => rw [hx]; exact ⟨x, rfl, rfl⟩
  · cases h
theorem trim_0 (h : Pr I n l) {d : D} (hd : d.under I.length = true) : trim (st I n (ds l) e a) d (st I n (ds l) e b) = st I n (ds l) e b := by
  have := trim_st (e := e) (a := a) (b := b) h.hn hd h.u []
  rwa [List.append_nil] at this
theorem under_wd (h : Pr I n l) {m : Nat} : (wdP l a).under m = true := by
  unfold wdP
  split
  · next x hx =>
    rcases (h.hg.get hx).w with ⟨z, h⟩ | ⟨s, h, _⟩ <;> rw [h] <;> simp
  · simp
theorem tru_b {b : Bool} : truD (.bl b) I = .ok b I := rfl
theorem under_x {x : Wd} (h : Gd x) {m : Nat} : x.w.under m = true := by
  rcases h.w with ⟨z, h⟩ | ⟨s, h, _⟩ <;> rw [h] <;> simp
theorem aug_at (hn : n < I.length) {ws : List D} (h0 : ρ[0]? = some (some (.loc n))) : augF T_cls "at" addJ (getV 0) (cV (.int 1)) ρ (st I n ws e a) = .nx ρ (st I n ws e (a + 1)) := by
  unfold augF
  rw [e_get h0]
  dsimp only [Res.bindS]
  rw [at_at hn]
  dsimp only [Res.bindS, cV]
  show (if clsOf (st I n ws e a) (.loc n) = clsOf (st I n ws e a) (.loc n) then (setA T_cls "at" (.loc n) (nI (a + 1)) (st I n ws e a)).bindS fun _ I5 => SRes.nx ρ I5 else .stuck) = _
  rw [if_pos rfl, set_at hn]
  rfl
theorem fin_u {d : D} {I' : MH} (hd : d.under I.length = true) : fin I d I' = .ok d (trim I d I') := by
  unfold fin
  split
  · next m => have : m < I.length := by simpa [D.under] using hd
              rw [if_neg (by omega)]
  · next s m => have : m < I.length := by simpa [D.under, unders] using hd
                rw [if_neg (by omega)]
  · rfl
theorem fin_st (h : Pr I n l) {d : D} (hd : d.under I.length = true) : fin (st I n (ds l) e a) d (st I n (ds l) e b) = .ok d (st I n (ds l) e b) := by
  rw [fin_u (by rw [st_len]; exact hd), trim_0 h hd]
theorem take_ok (h : Pr I n l) (k : List Nat) : F_Parser_take [.loc n, .str k] (st I n (ds l) e a) = (takeP l a k).r l I n e := by
  have hk := is_kind_ok (a := a) (e := e) h.hn h.hl k
  have hf := fail_ok (l := l) (a := a) (e := e) h.hn
  unfold F_Parser_take b_Parser_take takeP
  rw [run_def]
  have c1 : ∀ ρ : En, ρ[0]? = some (some (.loc n)) → ρ[1]? = some (some (.str k)) → callM M_Parser_take "is_kind" (getV 0) [getV 1] ρ (st I n (ds l) e a) = F_Parser_is_kind [.loc n, .str k] (st I n (ds l) e a) := fun ρ h0 h1 =>
    cm_st h.hn (by simp [h0]) rfl (by decide) (by simp [h1]) rfl
  have c2 : ∀ ρ : En, ρ[0]? = some (some (.loc n)) → callM M_Parser_take "fail" (getV 0) [] ρ (st I n (ds l) e a) = F_Parser_fail [.loc n] (st I n (ds l) e a) := fun ρ h0 =>
    cm_st h.hn (by simp [h0]) rfl (by decide) rfl rfl
  by_cases hb : kindP l a k = true
  · obtain ⟨x, hx, hw⟩ := kind_some hb
    simp -implicitDefEqProofs [c1, hk, hb, e_attr, at_at h.hn, at_words h.hn, ds_ix hx, wd_dd, wd2, hw, PR.r, tru_b, aug_at h.hn, trim_0 h, fin_st h (under_x (h.hg.get hx))]
  · have hb' : kindP l a k = false := by simpa using hb
    simp -implicitDefEqProofs [c1, c2, hk, hf, hb', PR.r, doc, tru_b, trim_0 h]
theorem skip_ok (h : Pr I n l) {k w : List Nat} (ok : okS k) (ow : okS w) : F_Parser_skip [.loc n, .str k, .str w] (st I n (ds l) e a) = (skipP l a k w).r l I n e := by
  have hk := is_next_ok (a := a) (e := e) h.hg h.hn h.hl ok ow
  have hf := fail_ok (l := l) (a := a) (e := e) h.hn
  unfold F_Parser_skip b_Parser_skip skipP
  rw [run_def]
  have c1 : ∀ ρ : En, ρ[0]? = some (some (.loc n)) → ρ[1]? = some (some (.str k)) → ρ[2]? = some (some (.str w)) → callM M_Parser_skip "is_next" (getV 0) [getV 1, getV 2] ρ (st I n (ds l) e a) = F_Parser_is_next [.loc n, .str k, .str w] (st I n (ds l) e a) := fun ρ h0 h1 h2 =>
    cm_st h.hn (by simp [h0]) rfl (by decide) (by simp [h1, h2]) rfl
  have c2 : ∀ ρ : En, ρ[0]? = some (some (.loc n)) → callM M_Parser_skip "fail" (getV 0) [] ρ (st I n (ds l) e a) = F_Parser_fail [.loc n] (st I n (ds l) e a) := fun ρ h0 =>
    cm_st h.hn (by simp [h0]) rfl (by decide) rfl rfl
  by_cases hb : isP l a k w = true
  · simp -implicitDefEqProofs [c1, hk, hb, PR.r, tru_b, aug_at h.hn, trim_0 h]
  · have hb' : isP l a k w = false := by simpa using hb
    simp -implicitDefEqProofs [c1, c2, hk, hf, hb', PR.r, doc, tru_b, trim_0 h]
theorem try_ok (h : Pr I n l) {w : List Nat} (ow : okS w) : F_Parser_try_sign [.loc n, .str w] (st I n (ds l) e a) = .ok (.bl (isP l a t_sign w)) (st I n (ds l) e (if isP l a t_sign w then a + 1 else a)) := by
  have hk := is_next_ok (k := t_sign) (a := a) (e := e) h.hg h.hn h.hl (strOk_of (by decide)) ow
  unfold F_Parser_try_sign b_Parser_try_sign
  rw [run_def]
  have c1 : ∀ ρ : En, ρ[0]? = some (some (.loc n)) → ρ[1]? = some (some (.str w)) → callM M_Parser_try_sign "is_next" (getV 0) [cV (.str t_sign), getV 1] ρ (st I n (ds l) e a) = F_Parser_is_next [.loc n, .str t_sign, .str w] (st I n (ds l) e a) := fun ρ h0 h1 =>
    cm_st h.hn (by simp [h0]) rfl (by decide) (by simp [h1]) rfl
  by_cases hb : isP l a t_sign w = true
  · simp -implicitDefEqProofs [c1, hk, hb, tru_b, aug_at h.hn, trim_0 h]
  · have hb' : isP l a t_sign w = false := by simpa using hb
    simp -implicitDefEqProofs [c1, hk, hb', tru_b, trim_0 h]
end
end K07
/-! K07Y: calls of the parser's methods; both readings of names, constants, values -/
namespace K07
open PySem PySem.Spec L2 MP
def fldFree (m : Str) : Bool := m != "words" && m != "end" && m != "at"
@[simp] theorem ff_1 : fldFree "is_kind" = true := by decide
@[simp] theorem ff_2 : fldFree "is_next" = true := by decide
@[simp] theorem ff_3 : fldFree "fail" = true := by decide
@[simp] theorem ff_4 : fldFree "take" = true := by decide
@[simp] theorem ff_5 : fldFree "skip" = true := by decide
@[simp] theorem ff_6 : fldFree "try_sign" = true := by decide
@[simp] theorem ff_7 : fldFree "plain_name" = true := by decide
@[simp] theorem ff_8 : fldFree "constant" = true := by decide
@[simp] theorem ff_9 : fldFree "value" = true := by decide
@[simp] theorem ff_10 : fldFree "type_at" = true := by decide
@[simp] theorem ff_11 : fldFree "declarations" = true := by decide
@[simp] theorem ff_12 : fldFree "conditions" = true := by decide
@[simp] theorem ff_13 : fldFree "arguments" = true := by decide
@[simp] theorem ff_14 : fldFree "field" = true := by decide
@[simp] theorem ff_15 : fldFree "spread" = true := by decide
@[simp] theorem ff_16 : fldFree "selection" = true := by decide
@[simp] theorem ff_17 : fldFree "fragment" = true := by decide
@[simp] theorem ff_18 : fldFree "document" = true := by decide
section
variable {I J : MH} {n e a b : Nat} {l : List Wd} {ρ : En}
theorem callV_st {mt : Mtt} {m : Str} {fs : List EF} {ws : List D} (hn : n < I.length) (hg : fldFree m = true) : callV mt m fs (.loc n) ρ (st I n ws e a) = match mt.lookup (("Parser" : Str), m) with
    | some (k, F) => (seqA fs ρ (st I n ws e a)).bind fun xs J => if xs.length + 1 = k then F (.loc n :: xs) J else .stuck
    | none => .stuck := by
  unfold callV
  rw [ins_st hn]
  dsimp only
  have hg' : (List.lookup m [(("words" : Str), D.lst ws), (("end" : Str), nI e), (("at" : Str), nI a)]).isNone = true := by
    unfold fldFree at hg
    simp only [Bool.and_eq_true, bne_iff_ne, ne_eq] at hg
    have h1 : (m == ("words" : Str)) = false := beq_eq_false_iff_ne.mpr hg.1.1
    have h2 : (m == ("end" : Str)) = false := beq_eq_false_iff_ne.mpr hg.1.2
    have h3 : (m == ("at" : Str)) = false := beq_eq_false_iff_ne.mpr hg.2
    simp only [List.lookup, h1, h2, h3]
    rfl
  simp only [hg', if_true]
  all_goals (cases List.lookup (("Parser" : Str), m) mt <;> rfl)
theorem ok_lit {s : List Nat} (h : (s.all fun c => decide (c < 128)) = true) : okS s := strOk_of fun c hc => of_decide_eq_true (List.all_eq_true.mp h c hc)
theorem st_cell {c : Cell} {ws : List D} (hn : n < I.length) : (st (I ++ [c]) n ws e a)[I.length]? = some c := by
  unfold st
  rw [List.getElem?_set_ne (by omega)]
  simp
theorem st_setc {c c' : Cell} {ws : List D} (hn : n < I.length) : (st (I ++ [c]) n ws e a).set I.length c' = st (I ++ [c']) n ws e a := by
  unfold st
  rw [List.set_comm _ _ (by omega), new_set]
/-- the end of a method -/
theorem fin_in (h : Pr I n l) {d : D} (hd : d.under 0 = true) : fin (st I n (ds l) e a) d (st (I ++ J) n (ds l) e b) = .ok d (st I n (ds l) e b) := by
  rw [fin_cl hd, trim_st h.hn (cl_under hd) h.u]
theorem trim_in (h : Pr I n l) {d : D} (hd : d.under 0 = true) : trim (st I n (ds l) e a) d (st (I ++ J) n (ds l) e b) = st I n (ds l) e b := trim_st h.hn (cl_under hd) h.u J
theorem fin_0 (h : Pr I n l) {d : D} (hd : d.under 0 = true) : fin (st I n (ds l) e a) d (st I n (ds l) e b) = .ok d (st I n (ds l) e b) := fin_st h (cl_under hd)
theorem trim_00 (h : Pr I n l) {d : D} (hd : d.under 0 = true) : trim (st I n (ds l) e a) d (st I n (ds l) e b) = st I n (ds l) e b := trim_0 h (cl_under hd)
/-- both readings agree -/
def PR.good (o : PR) (l : List Wd) (a s : Nat) : Prop := match o with
  | .inl _ => True
  | .inr (v, c) => v.under 0 = true ∧ a + s ≤ c ∧ c ≤ max a l.length
def Sim (l : List Wd) (a s : Nat) (fl : MH → Res D) (fm : MH → Nat → Nat → Res D) : Prop :=
  ∃ o : PR, o.good l a s ∧ (∀ J, fl J = .ok o.t J) ∧ ∀ I n e, Pr I n l → fm I n e = o.r l I n e
theorem kind_lt {k : List Nat} (h : kindP l a k = true) : a < l.length := by
  unfold kindP at h
  split at h
  · next x hx => exact (List.getElem?_eq_some_iff.mp hx).1
  · cases h
theorem is_lt {k w : List Nat} (h : isP l a k w = true) : a < l.length := by
  unfold isP at h
  split at h
  · next x hx => exact (List.getElem?_eq_some_iff.mp hx).1
  · cases h
theorem wd_cl (g : Gds l) : (wdP l a).under 0 = true := by
  unfold wdP
  split
  · next x hx => exact under_x (g.get hx)
  · simp
theorem kind_at {k : List Nat} (h : kindP l a k = true) : ∃ x, l[a]? = some x ∧ x.k = k ∧ wdP l a = x.w := by
  unfold kindP at h
  unfold wdP
  split at h
  · next x hx => rw [hx]; exact ⟨x, rfl, by simpa using h, rfl⟩
  · cases h
/-- the word at a place, in the law's words -/
theorem l_wd {k : List Nat} (h : kindP l a k = true) : ∃ x : Wd, ixD (.lst (ds l)) (nI a) = (fun J => .ok x.d J) ∧ wdP l a = x.w ∧ x.k = k := by
  obtain ⟨x, h1, h2, h3⟩ := kind_at h
  exact ⟨x, funext fun J => ds_ix h1, h3, h2⟩
theorem ixw {k : List Nat} (h : kindP l a k = true) {J : MH} : (ixDD (.lst (ds l)) (nI a) J).bind (fun x J => ixDD x (.int 2) J) = .ok (wdP l a) J := by
  obtain ⟨x, h1, h2, _⟩ := l_wd h
  rw [o_ixDlst, h1, h2]
  rfl
def plainP (l : List Wd) (a : Nat) : PR := if isP l a t_name t_meta then .inl a else takeP l a t_name
theorem plain_ok (h : Pr I n l) : F_Parser_plain_name [.loc n] (st I n (ds l) e a) = (plainP l a).r l I n e := by
  have hk := fun a => is_next_ok (k := t_name) (w := t_meta) (a := a) (e := e) h.hg h.hn h.hl (ok_lit (by decide)) (ok_lit (by decide))
  have hf := fun a => fail_ok (l := l) (a := a) (e := e) h.hn
  have ht := fun a => take_ok (a := a) (e := e) h t_name
  unfold F_Parser_plain_name b_Parser_plain_name plainP
  rw [run_def]
  by_cases hb : isP l a t_name t_meta = true
  · simp -implicitDefEqProofs [e_callM, callV_st h.hn, hk, hf, hb, PR.r, doc, trim_00 h]
  · have hb' : isP l a t_name t_meta = false := by simpa using hb
    unfold takeP at ht ⊢
    by_cases hc : kindP l a t_name = true
    · simp -implicitDefEqProofs [e_callM, callV_st h.hn, hk, ht, hb', hc, PR.r, fin_0 h, wd_cl h.hg]
    · have hc' : kindP l a t_name = false := by simpa using hc
      simp -implicitDefEqProofs [e_callM, callV_st h.hn, hk, ht, hb', hc', PR.r, doc, trim_00 h]
end
end K07
/-! K07Y2: constants, values -/
namespace K07
open PySem PySem.Spec L2 MP
section
variable {I J : MH} {n e a b : Nat} {l : List Wd} {ρ : En}
def cstOf : D → Option D
  | .str s => tb_WORD_CONSTANTS.lookup s
  | _ => none
def constP (l : List Wd) (a : Nat) : PR :=
  if kindP l a t_number then .inr (.tup [.str t_number, wdP l a], a + 1)
  else if kindP l a t_text then .inr (.tup [.str t_text, wdP l a], a + 1)
  else if kindP l a t_name then match cstOf (wdP l a) with
    | some v => .inr (v, a + 1)
    | none => .inl a
  else .inl a
theorem cst_cl {d v : D} (h : cstOf d = some v) : v.under 0 = true := by
  unfold cstOf at h
  split at h
  · rename_i s
    unfold tb_WORD_CONSTANTS at h
    simp only [List.lookup] at h
    split at h
    · cases h; simp
    · split at h
      · cases h; simp
      · split at h
        · cases h; simp
        · cases h
  · cases h
theorem const_good (g : Gds l) : (constP l a).good l a 1 := by
  have w := wd_cl (a := a) g
  unfold constP
  split
  · rename_i h; have := kind_lt h; exact ⟨by simp [w], by omega, by omega⟩
  split
  · rename_i h; have := kind_lt h; exact ⟨by simp [w], by omega, by omega⟩
  split
  · rename_i h
    have := kind_lt h
    split
    · rename_i v hv; exact ⟨cst_cl hv, by omega, by omega⟩
    · trivial
  · trivial
theorem constant_ok (h : Pr I n l) : F_Parser_constant [.loc n] (st I n (ds l) e a) = (constP l a).r l I n e := by
  have hk := fun a k => is_kind_ok (a := a) (e := e) (l := l) h.hn h.hl k
  have hf := fun a => fail_ok (l := l) (a := a) (e := e) h.hn
  have ht : ∀ k, kindP l a k = true → F_Parser_take [.loc n, .str k] (st I n (ds l) e a) = .ok (wdP l a) (st I n (ds l) e (a + 1)) := fun k hc => by rw [take_ok h k]; unfold takeP; rw [if_pos hc]; rfl
  have hw : (wdP l a).under 0 = true := wd_cl h.hg
  unfold F_Parser_constant b_Parser_constant constP
  rw [run_def]
  by_cases h1 : kindP l a t_number = true
  · simp -implicitDefEqProofs [e_callM, callV_st h.hn, hk, ht _ h1, h1, PR.r, fin_0 h, hw]
  have h1' : kindP l a t_number = false := by simpa using h1
  by_cases h2 : kindP l a t_text = true
  · simp -implicitDefEqProofs [e_callM, callV_st h.hn, hk, ht _ h2, h1', h2, PR.r, fin_0 h, hw]
  have h2' : kindP l a t_text = false := by simpa using h2
  by_cases h3 : kindP l a t_name = true
  · obtain ⟨x, hx, hxk, hxw⟩ := kind_at h3
    obtain ⟨s, hs, _⟩ := (h.hg.get hx).nm (by rw [hxk]; decide)
    have hcs : cstOf (wdP l a) = tb_WORD_CONSTANTS.lookup s := by rw [hxw, hs]; rfl
    have hix : ixD x.d (.int 2) (st I n (ds l) e a) = .ok (.str s) (st I n (ds l) e a) := by rw [wd2, hs]
    cases hc : tb_WORD_CONSTANTS.lookup s with
    | none =>
      simp -implicitDefEqProofs [e_callM, callV_st h.hn, hk, hf, h1', h2', h3, PR.r, kdIn, kdGet, e_attr, at_at h.hn, at_words h.hn, ds_ix hx, wd_dd, hix, hcs, hc, doc, trim_00 h]
    | some v =>
      have hv : cstOf (.str s) = some v := hc
      simp -implicitDefEqProofs [e_callM, callV_st h.hn, hk, ht _ h3, h1', h2', h3, PR.r, kdIn, kdGet, e_attr, at_at h.hn, at_words h.hn, ds_ix hx, wd_dd, hix, hv, hc, hxw, hs, fin_0 h, cst_cl hv, optR]
  · have h3' : kindP l a t_name = false := by simpa using h3
    simp -implicitDefEqProofs [e_callM, callV_st h.hn, hk, hf, h1', h2', h3', PR.r, doc, trim_00 h]
/-! the law's -/
def tbk : List (KD × D) := [(.inr t_true, (.tup [(.str t_truth), (.bl true)])), (.inr t_false, (.tup [(.str t_truth), (.bl false)])), (.inr t_null, (.tup [(.str t_null)]))]
theorem val_tb (s : List Nat) : valD tbk (.inr s) = tb_WORD_CONSTANTS.lookup s := by
  unfold valD tbk tb_WORD_CONSTANTS
  by_cases h1 : s = t_true
  · subst h1; rfl
  by_cases h2 : s = t_false
  · subst h2; rfl
  by_cases h3 : s = t_null
  · subst h3; rfl
  simp [List.lookup, beq_eq_false_iff_ne.mpr h1, beq_eq_false_iff_ne.mpr h2, beq_eq_false_iff_ne.mpr h3, Ne.symm h1, Ne.symm h2, Ne.symm h3]
theorem l_table : dictE [((cV (.str t_true)), (tupE [(cV (.str t_truth)), (cV (.bl true))])), ((cV (.str t_false)), (tupE [(cV (.str t_truth)), (cV (.bl false))])), ((cV (.str t_null)), (tupE [(cV (.str t_null))]))] ρ J = .ok (.loc J.length) (J ++ [.dct tbk]) := by
  have hm : mergeD [] [((.inr t_true : KD), (D.tup [(.str t_truth), (.bl true)])), (.inr t_false, (.tup [(.str t_truth), (.bl false)])), (.inr t_null, (.tup [(.str t_null)]))] = tbk := by
    unfold mergeD tbk putKD
    simp [List.foldl, t_true, t_false, t_null]
  unfold dictE
  simp -implicitDefEqProofs [pairsE, keysD, keyD, new_get, new_set, hm]
theorem l_constant_ok (g : Gds l) : F_l_constant [.lst (ds l), nI a] J = .ok (constP l a).t J := by
  have hw : (wdP l a).under 0 = true := wd_cl g
  have ta : ∀ {d : D}, d.under 0 = true → trim J d (J ++ [.dct tbk]) = J := fun hd => trim_app (cl_under hd)
  unfold F_l_constant b_l_constant constP
  rw [run_def]
  by_cases h1 : kindP l a t_number = true
  · obtain ⟨x, hx, hxk, hxw⟩ := kind_at h1
    rw [hxw] at hw
    simp -implicitDefEqProofs [l_table, l_kind_ok, h1, ds_ix hx, wd_dd, wd1, wd2, hxk, hxw, PR.t, ta, hw]
  have h1' : kindP l a t_number = false := by simpa using h1
  by_cases h2 : kindP l a t_text = true
  · obtain ⟨x, hx, hxk, hxw⟩ := kind_at h2
    rw [hxw] at hw
    simp -implicitDefEqProofs [l_table, l_kind_ok, h1', h2, ds_ix hx, wd_dd, wd1, wd2, hxk, hxw, PR.t, ta, hw]
  have h2' : kindP l a t_text = false := by simpa using h2
  by_cases h3 : kindP l a t_name = true
  · obtain ⟨x, hx, hxk, hxw⟩ := kind_at h3
    obtain ⟨s, hs, _⟩ := (g.get hx).nm (by rw [hxk]; decide)
    have hcs : cstOf (wdP l a) = tb_WORD_CONSTANTS.lookup s := by rw [hxw, hs]; rfl
    cases hc : tb_WORD_CONSTANTS.lookup s with
    | none =>
      simp -implicitDefEqProofs [l_table, l_kind_ok, h1', h2', h3, ds_ix hx, wd_dd, wd2, hs, o_inDct (new_get (I := J) (c := .dct tbk)), val_tb, hcs, hc, PR.t, ta]
    | some v =>
      have hv : v.under 0 = true := cst_cl (d := .str s) hc
      simp -implicitDefEqProofs [l_table, l_kind_ok, h1', h2', h3, ds_ix hx, wd_dd, wd2, hs, o_inDct (new_get (I := J) (c := .dct tbk)), o_ixDct (new_get (I := J) (c := .dct tbk)), val_tb, hcs, hc, PR.t, ta, hv]
  · have h3' : kindP l a t_name = false := by simpa using h3
    simp -implicitDefEqProofs [l_table, l_kind_ok, h1', h2', h3', PR.t, ta]
def valueP (l : List Wd) (a : Nat) : PR := if kindP l a t_variable then .inr (.tup [.str t_variable, wdP l a], a + 1) else constP l a
theorem value_good (g : Gds l) : (valueP l a).good l a 1 := by
  unfold valueP
  split
  · rename_i h; have := kind_lt h; exact ⟨by simp [wd_cl g], by omega, by omega⟩
  · exact const_good g
theorem pr_fin (h : Pr I n l) {o : PR} {s : Nat} (hg : o.good l a s) : endD (st I n (ds l) e b) ((o.r l I n e).bindS fun d J => .ret d J) = o.r l I n e := by
  rcases o with p | ⟨v, c⟩
  · simp [PR.r, doc, trim_00 h]
  · simp [PR.r, fin_0 h hg.1]
theorem value_ok (h : Pr I n l) : F_Parser_value [.loc n] (st I n (ds l) e a) = (valueP l a).r l I n e := by
  have hk := fun a k => is_kind_ok (a := a) (e := e) (l := l) h.hn h.hl k
  have ht : ∀ k, kindP l a k = true → F_Parser_take [.loc n, .str k] (st I n (ds l) e a) = .ok (wdP l a) (st I n (ds l) e (a + 1)) := fun k hc => by rw [take_ok h k]; unfold takeP; rw [if_pos hc]; rfl
  have hw : (wdP l a).under 0 = true := wd_cl h.hg
  have hc := fun a => constant_ok (a := a) (e := e) h
  unfold F_Parser_value b_Parser_value valueP
  rw [run_def]
  by_cases h1 : kindP l a t_variable = true
  · simp -implicitDefEqProofs [e_callM, callV_st h.hn, hk, ht _ h1, h1, PR.r, fin_0 h, hw]
  have h1' : kindP l a t_variable = false := by simpa using h1
  have hg := const_good (a := a) h.hg
  cases ho : constP l a with
  | inl p => simp -implicitDefEqProofs [e_callM, callV_st h.hn, hk, h1', hc, ho, PR.r, doc, trim_00 h]
  | inr q =>
    obtain ⟨v, c⟩ := q
    rw [ho] at hg
    simp -implicitDefEqProofs [e_callM, callV_st h.hn, hk, h1', hc, ho, PR.r, fin_0 h, hg.1]
theorem l_value_ok (g : Gds l) : F_l_value_at [.lst (ds l), nI a] J = .ok (valueP l a).t J := by
  have hc := fun a J => l_constant_ok (a := a) (J := J) g
  unfold F_l_value_at b_l_value_at valueP
  rw [run_def]
  by_cases h1 : kindP l a t_variable = true
  · obtain ⟨x, hx, hxk, hxw⟩ := kind_at h1
    simp -implicitDefEqProofs [l_kind_ok, h1, ds_ix hx, wd_dd, wd2, hxw, PR.t]
  have h1' : kindP l a t_variable = false := by simpa using h1
  cases ho : constP l a with
  | inl p => simp -implicitDefEqProofs [l_kind_ok, h1', hc, ho, PR.t]
  | inr q =>
    obtain ⟨v, c⟩ := q
    simp -implicitDefEqProofs [l_kind_ok, h1', hc, ho, PR.t]
end
end K07
/-! K07C: types; facts to rewrite by -/
namespace K07
open PySem PySem.Spec L2 MP
def lit (s : List Nat) : Bool := s.all fun c => decide (c < 128)
@[simp] theorem lit_1 : lit t_sign = true := by decide
@[simp] theorem lit_2 : lit t_name = true := by decide
@[simp] theorem lit_3 : lit t_if = true := by decide
@[simp] theorem lit_4 : lit t_unless = true := by decide
@[simp] theorem lit_5 : lit t_on = true := by decide
@[simp] theorem lit_6 : lit t_fragment = true := by decide
@[simp] theorem lit_7 : lit t_query = true := by decide
@[simp] theorem lit_8 : lit t_meta = true := by decide
@[simp] theorem lit_9 : lit t_dots = true := by decide
@[simp] theorem lit_10 : lit [91] = true := by decide
@[simp] theorem lit_11 : lit [93] = true := by decide
@[simp] theorem lit_12 : lit [33] = true := by decide
@[simp] theorem lit_13 : lit [40] = true := by decide
@[simp] theorem lit_14 : lit [41] = true := by decide
@[simp] theorem lit_15 : lit [58] = true := by decide
@[simp] theorem lit_16 : lit [61] = true := by decide
@[simp] theorem lit_17 : lit [64] = true := by decide
@[simp] theorem lit_18 : lit [123] = true := by decide
@[simp] theorem lit_19 : lit [125] = true := by decide
section
variable {I J : MH} {n e a b : Nat} {l : List Wd} {ρ : En}
theorem next_p (h : Pr I n l) {k w : List Nat} (hk : lit k = true) (hw : lit w = true) : F_Parser_is_next [.loc n, .str k, .str w] (st I n (ds l) e a) = .ok (.bl (isP l a k w)) (st I n (ds l) e a) := is_next_ok h.hg h.hn h.hl (ok_lit hk) (ok_lit hw)
theorem kind_p (h : Pr I n l) {k : List Nat} : F_Parser_is_kind [.loc n, .str k] (st I n (ds l) e a) = .ok (.bl (kindP l a k)) (st I n (ds l) e a) := is_kind_ok h.hn h.hl k
theorem fail_p (h : Pr I n l) : F_Parser_fail [.loc n] (st I n (ds l) e a) = .err (doc (placeP l e a)) (st I n (ds l) e a) := fail_ok h.hn
theorem skip_p (h : Pr I n l) {k w : List Nat} (hk : lit k = true) (hw : lit w = true) : F_Parser_skip [.loc n, .str k, .str w] (st I n (ds l) e a) = if isP l a k w then .ok .non (st I n (ds l) e (a + 1)) else .err (doc (placeP l e a)) (st I n (ds l) e a) := by
  rw [skip_ok h (ok_lit hk) (ok_lit hw)]
  unfold skipP
  split <;> rfl
theorem take_p (h : Pr I n l) {k : List Nat} : F_Parser_take [.loc n, .str k] (st I n (ds l) e a) = if kindP l a k then .ok (wdP l a) (st I n (ds l) e (a + 1)) else .err (doc (placeP l e a)) (st I n (ds l) e a) := by
  rw [take_ok h]
  unfold takeP
  split <;> rfl
theorem try_p (h : Pr I n l) {w : List Nat} (hw : lit w = true) : F_Parser_try_sign [.loc n, .str w] (st I n (ds l) e a) = .ok (.bl (isP l a t_sign w)) (st I n (ds l) e (if isP l a t_sign w then a + 1 else a)) := try_ok h (ok_lit hw)
theorem is_l (g : Gds l) {k w : List Nat} (hk : lit k = true) (hw : lit w = true) : F_l_is [.lst (ds l), nI a, .str k, .str w] J = .ok (.bl (isP l a k w)) J := l_is_ok g (ok_lit hk) (ok_lit hw)
/-- a plain name -/
def plainB (l : List Wd) (a : Nat) : Bool := !isP l a t_name t_meta && kindP l a t_name
theorem plain_p (h : Pr I n l) : F_Parser_plain_name [.loc n] (st I n (ds l) e a) = if plainB l a then .ok (wdP l a) (st I n (ds l) e (a + 1)) else .err (doc (placeP l e a)) (st I n (ds l) e a) := by
  rw [plain_ok h]
  unfold plainP plainB takeP
  by_cases h1 : isP l a t_name t_meta = true
  · simp [h1, PR.r]
  · have h1' : isP l a t_name t_meta = false := by simpa using h1
    by_cases h2 : kindP l a t_name = true
    · simp [h1', h2, PR.r]
    · have h2' : kindP l a t_name = false := by simpa using h2
      simp [h1', h2', PR.r]
theorem eqv_str {s u : List Nat} : eqvD (.str s) (.str u) = (s == u) := rfl
theorem plain_l (g : Gds l) : F_l_plain_at [.lst (ds l), nI a] J = .ok (.bl (plainB l a)) J := by
  unfold F_l_plain_at b_l_plain_at plainB
  rw [run_def]
  by_cases h2 : kindP l a t_name = true
  · obtain ⟨x, hx, hxk, hxw⟩ := kind_at h2
    obtain ⟨s, hs, _⟩ := (g.get hx).nm (by rw [hxk]; decide)
    have h1 : isP l a t_name t_meta = (s == t_meta) := by
      unfold isP
      rw [hx]
      simp [hxk, hs, eqv_str]
    simp -implicitDefEqProofs [e_and, l_kind_ok, h2, ds_ix hx, wd_dd, wd2, hs, h1]
  · have h2' : kindP l a t_name = false := by simpa using h2
    simp -implicitDefEqProofs [e_and, l_kind_ok, h2']
theorem plain_lt (h : plainB l a = true) : kindP l a t_name = true := by
  unfold plainB at h
  exact (Bool.and_eq_true_iff.mp h).2
/-- the word's third part, read by the law -/
theorem wd_l {k : List Nat} (h : kindP l a k = true) : ∃ x : Wd, l[a]? = some x ∧ x.w = wdP l a := by
  obtain ⟨x, h1, _, h3⟩ := kind_at h
  exact ⟨x, h1, h3.symm⟩
/-! types -/
def bangP (l : List Wd) (v : D) (a : Nat) : PR := if isP l a t_sign [33] then .inr (.tup [.str t_must, v], a + 1) else .inr (v, a)
def typeP (l : List Wd) : Nat → Nat → PR
  | 0, a => if isP l a t_sign [91] then .inl a else if plainB l a then bangP l (.tup [.str t_name, wdP l a]) (a + 1) else .inl a
  | d + 1, a => if isP l a t_sign [91] then (match typeP l d (a + 1) with
      | .inl b => .inl b
      | .inr (v, c) => if isP l c t_sign [93] then bangP l (.tup [.str t_list, v]) (c + 1) else .inl c)
    else if plainB l a then bangP l (.tup [.str t_name, wdP l a]) (a + 1) else .inl a
theorem bang_good {v : D} (hv : v.under 0 = true) {s : Nat} (h1 : b + s ≤ a) (h2 : a ≤ max b l.length) : (bangP l v a).good l b s := by
  unfold bangP
  split
  · rename_i h; have := is_lt h; exact ⟨by simp [hv], by omega, by omega⟩
  · exact ⟨hv, h1, h2⟩
theorem type_good (g : Gds l) : ∀ d a, (typeP l d a).good l a 1 := by
  intro d
  induction d with
  | zero =>
    intro a
    unfold typeP
    split
    · trivial
    split
    · rename_i h; have := kind_lt (plain_lt h); exact bang_good (by simp [wd_cl g]) (by omega) (by omega)
    · trivial
  | succ d ih =>
    intro a
    unfold typeP
    split
    · rename_i h0
      have := is_lt h0
      have ih' := ih (a + 1)
      split
      · trivial
      · rename_i v c hv
        rw [hv] at ih'
        obtain ⟨i1, i2, i3⟩ := ih'
        split
        · rename_i h1
          have := is_lt h1
          exact bang_good (by simp [i1]) (by omega) (by omega)
        · trivial
    split
    · rename_i h; have := kind_lt (plain_lt h); exact bang_good (by simp [wd_cl g]) (by omega) (by omega)
    · trivial
theorem type_ok (h : Pr I n l) : ∀ d f a, d < f → W_Parser_type_at f 0 [.loc n, nI d] (st I n (ds l) e a) = (typeP l d a).r l I n e := by
  have hw : ∀ a, (wdP l a).under 0 = true := fun a => wd_cl h.hg
  have bang : ∀ (v : D) (c : Nat) (hv : v.under 0 = true), (bangP l v c).r l I n e = if isP l c t_sign [33] then .ok (.tup [.str t_must, v]) (st I n (ds l) e (c + 1)) else .ok v (st I n (ds l) e c) := fun v c hv => by unfold bangP; split <;> rfl
  have name : ∀ (G : FF) (d : Nat) (a : Nat), isP l a t_sign [91] = false → runDef 3 (b_Parser_type_at G) [.loc n, nI d] (st I n (ds l) e a) = (if plainB l a then bangP l (.tup [.str t_name, wdP l a]) (a + 1) else .inl a : PR).r l I n e := by
    intro G d a h1
    rw [run_def]
    unfold b_Parser_type_at
    by_cases h2 : plainB l a = true
    · by_cases h3 : isP l (a + 1) t_sign [33] = true
      · simp -implicitDefEqProofs [e_callM, callV_st h.hn, next_p h, plain_p h, try_p h, h1, h2, h3, bang, hw, fin_0 h]
      · have h3' : isP l (a + 1) t_sign [33] = false := by simpa using h3
        simp -implicitDefEqProofs [e_callM, callV_st h.hn, next_p h, plain_p h, try_p h, h1, h2, h3', bang, hw, fin_0 h]
    · have h2' : plainB l a = false := by simpa using h2
      simp -implicitDefEqProofs [e_callM, callV_st h.hn, next_p h, plain_p h, h1, h2', PR.r, doc, trim_00 h]
  intro d
  induction d with
  | zero =>
    intro f a hf
    obtain ⟨f, rfl⟩ : ∃ k, f = k + 1 := ⟨f - 1, by omega⟩
    show runDef 3 (b_Parser_type_at (W_Parser_type_at f 0)) _ _ = _
    by_cases h1 : isP l a t_sign [91] = true
    · unfold typeP
      rw [run_def]
      unfold b_Parser_type_at
      simp -implicitDefEqProofs [e_callM, callV_st h.hn, next_p h, fail_p h, h1, PR.r, doc, trim_00 h]
    · have h1' : isP l a t_sign [91] = false := by simpa using h1
      rw [name _ _ _ h1']
      unfold typeP
      simp [h1']
  | succ d ih =>
    intro f a hf
    obtain ⟨f, rfl⟩ : ∃ k, f = k + 1 := ⟨f - 1, by omega⟩
    show runDef 3 (b_Parser_type_at (W_Parser_type_at f 0)) _ _ = _
    by_cases h1 : isP l a t_sign [91] = true
    · have ih' := ih f (a + 1) (by omega)
      have g' := type_good h.hg d (a + 1)
      unfold typeP
      rw [run_def]
      unfold b_Parser_type_at
      cases ho : typeP l d (a + 1) with
      | inl b =>
        rw [ho] at ih'
        simp -implicitDefEqProofs [e_callM, callV_st h.hn, next_p h, skip_p h, h1, ih', ho, PR.r, doc, trim_00 h]
      | inr q =>
        obtain ⟨v, c⟩ := q
        rw [ho] at ih' g'
        have gv : v.under 0 = true := g'.1
        by_cases h2 : isP l c t_sign [93] = true
        · by_cases h3 : isP l (c + 1) t_sign [33] = true
          · simp -implicitDefEqProofs [e_callM, callV_st h.hn, next_p h, skip_p h, try_p h, h1, ih', ho, h2, h3, PR.r, bangP, fin_0 h, gv]
          · have h3' : isP l (c + 1) t_sign [33] = false := by simpa using h3
            simp -implicitDefEqProofs [e_callM, callV_st h.hn, next_p h, skip_p h, try_p h, h1, ih', ho, h2, h3', PR.r, bangP, fin_0 h, gv]
        · have h2' : isP l c t_sign [93] = false := by simpa using h2
          simp -implicitDefEqProofs [e_callM, callV_st h.hn, next_p h, skip_p h, h1, ih', ho, h2', PR.r, doc, trim_00 h]
    · have h1' : isP l a t_sign [91] = false := by simpa using h1
      rw [name _ _ _ h1']
      unfold typeP
      simp [h1']
theorem l_type_ok (g : Gds l) : ∀ d c f a J, c + d = 5 → d < f → W_l_type_at f 0 [.lst (ds l), nI a, nI c] J = .ok (typeP l d a).t J := by
  have name : ∀ (G : FF) (c : Nat) (a : Nat) (J : MH), isP l a t_sign [91] = false → runDef 5 (b_l_type_at G) [.lst (ds l), nI a, nI c] J = .ok (if plainB l a then bangP l (.tup [.str t_name, wdP l a]) (a + 1) else .inl a : PR).t J := by
    intro G c a J h1
    rw [run_def]
    unfold b_l_type_at
    by_cases h2 : plainB l a = true
    · obtain ⟨x, hx, hxw⟩ := wd_l (plain_lt h2)
      by_cases h3 : isP l (a + 1) t_sign [33] = true
      · simp -implicitDefEqProofs [is_l g, plain_l g, h1, h2, ds_ix hx, wd_dd, wd2, hxw, h3, bangP, PR.t]
      · have h3' : isP l (a + 1) t_sign [33] = false := by simpa using h3
        simp -implicitDefEqProofs [is_l g, plain_l g, h1, h2, ds_ix hx, wd_dd, wd2, hxw, h3', bangP, PR.t]
    · have h2' : plainB l a = false := by simpa using h2
      simp -implicitDefEqProofs [is_l g, plain_l g, h1, h2', PR.t]
  have bo : ¬ t_ok = t_bad := by decide
  intro d
  induction d with
  | zero =>
    intro c f a J hc hf
    obtain ⟨f, rfl⟩ : ∃ k, f = k + 1 := ⟨f - 1, by omega⟩
    obtain rfl : c = 5 := by omega
    show runDef 5 (b_l_type_at (W_l_type_at f 0)) _ _ = _
    by_cases h1 : isP l a t_sign [91] = true
    · unfold typeP
      rw [run_def]
      unfold b_l_type_at
      simp -implicitDefEqProofs [is_l g, h1, PR.t]
    · have h1' : isP l a t_sign [91] = false := by simpa using h1
      rw [name _ _ _ _ h1']
      unfold typeP
      simp [h1']
  | succ d ih =>
    intro c f a J hc hf
    obtain ⟨f, rfl⟩ : ∃ k, f = k + 1 := ⟨f - 1, by omega⟩
    show runDef 5 (b_l_type_at (W_l_type_at f 0)) _ _ = _
    by_cases h1 : isP l a t_sign [91] = true
    · have ih' := fun J => ih (c + 1) f (a + 1) J (by omega) (by omega)
      have c5 : (c == 5) = false := beq_eq_false_iff_ne.mpr (by omega)
      unfold typeP
      rw [run_def]
      unfold b_l_type_at
      cases ho : typeP l d (a + 1) with
      | inl b =>
        rw [ho] at ih'
        simp -implicitDefEqProofs [is_l g, h1, c5, ih', ho, PR.t]
      | inr q =>
        obtain ⟨v, p⟩ := q
        rw [ho] at ih'
        by_cases h2 : isP l p t_sign [93] = true
        · by_cases h3 : isP l (p + 1) t_sign [33] = true
          · simp -implicitDefEqProofs [is_l g, h1, c5, ih', ho, bo, h2, h3, PR.t, bangP]
          · have h3' : isP l (p + 1) t_sign [33] = false := by simpa using h3
            simp -implicitDefEqProofs [is_l g, h1, c5, ih', ho, bo, h2, h3', PR.t, bangP]
        · have h2' : isP l p t_sign [93] = false := by simpa using h2
          simp -implicitDefEqProofs [is_l g, h1, c5, ih', ho, bo, h2', PR.t]
    · have h1' : isP l a t_sign [91] = false := by simpa using h1
      rw [name _ _ _ _ h1']
      unfold typeP
      simp [h1']
end
end K07
/-! K07D: arguments, declarations, conditions -/
namespace K07
open PySem PySem.Spec L2 MP
section
variable {I J : MH} {n e a b : Nat} {l : List Wd} {ρ : En}
theorem is_kind {k w : List Nat} (h : isP l a k w = true) : kindP l a k = true := by
  unfold isP at h
  unfold kindP
  split at h
  · next x hx => exact (Bool.and_eq_true_iff.mp h).1
  · cases h
theorem pr_finJ {o : PR} {s : Nat} {c : Cell} (hg : o.good l a s) : fin J o.t (J ++ [c]) = .ok o.t J := by
  rcases o with p | ⟨v, q⟩
  · simp [PR.t, trim_app]
  · rw [fin_cl (by simp [PR.t, hg.1]), trim_app (by simp [PR.t, cl_under hg.1])]
theorem thenS_seq {r : SRes} {f g : SF} : thenS r (seqS f g) = thenS (thenS r f) g := by
  cases r <;> simp [thenS]
/-- what a loop over the words makes of the parser's heap -/
def LoopM (o : PR) (l : List Wd) (I : MH) (n e : Nat) (k : Nat) (r : SRes) : Prop := match o with
  | .inl b => ∃ c, r = .err (doc (placeP l e b)) (st (I ++ [c]) n (ds l) e b)
  | .inr (v, c) => ∃ acc ys, v = .tup acc ∧ ys.length = k ∧ r = .nx (some (.loc n) :: some (.loc I.length) :: ys) (st (I ++ [.lst acc]) n (ds l) e c)
/-! arguments -/
def argsL (l : List Wd) : Nat → Nat → List D → PR
  | 0, a, _ => .inl a
  | f + 1, a, acc => if !acc.isEmpty && isP l a t_sign [41] then .inr (.tup acc, a + 1)
    else if plainB l a then (if isP l (a + 1) t_sign [58] then (match valueP l (a + 2) with
      | .inl b => .inl b
      | .inr (v, c) => argsL l f c (acc ++ [.tup [wdP l a, v]])) else .inl (a + 1)) else .inl a
theorem args_good (g : Gds l) : ∀ f a acc, unders 0 acc = true → (argsL l f a acc).good l a 0 := by
  intro f
  induction f with
  | zero => intro a acc _; trivial
  | succ f ih =>
    intro a acc hu
    unfold argsL
    split
    · rename_i h; have := is_lt (Bool.and_eq_true_iff.mp h).2; exact ⟨by simp [hu], by omega, by omega⟩
    split
    · rename_i h1
      have := kind_lt (plain_lt h1)
      split
      · rename_i h2
        have := is_lt h2
        have gv := value_good (a := a + 2) g
        split
        · trivial
        · rename_i v c hv
          rw [hv] at gv
          obtain ⟨g1, g2, g3⟩ := gv
          have ih' := ih c (acc ++ [.tup [wdP l a, v]]) (by rw [unders_app, hu]; simp [wd_cl g, g1])
          cases ho : argsL l f c (acc ++ [.tup [wdP l a, v]]) with
          | inl b => trivial
          | inr q => rw [ho] at ih'; exact ⟨ih'.1, by have := ih'.2.1; omega, by have := ih'.2.2; omega⟩
      · trivial
    · trivial
theorem args_loop (h : Pr I n l) : ∀ f a acc x2 k, l.length - a < f → f ≤ k → acc.length + f ≤ 3000000 →
    LoopM (argsL l f a acc) l I n e 1 (whileN lt_Parser_arguments_1 lb_Parser_arguments_1 k [some (.loc n), some (.loc I.length), x2] (st (I ++ [.lst acc]) n (ds l) e a)) := by
  intro f
  induction f with
  | zero => intro a acc x2 k h1; omega
  | succ f ih =>
    intro a acc x2 k h1 h2 h3
    obtain ⟨k, rfl⟩ : ∃ j, k = j + 1 := ⟨k - 1, by omega⟩
    have h' : Pr (I ++ [.lst acc]) n l := h.app
    have hc := fun a => st_cell (I := I) (e := e) (a := a) (c := .lst acc) (ws := ds l) h.hn
    have hcs := fun a => o_trucell (hc a)
    have hla := fun (a : Nat) => o_isLst (hc a)
    by_cases hs : (!acc.isEmpty && isP l a t_sign [41]) = true
    · have hs' := Bool.and_eq_true_iff.mp hs
      have e1 : acc.isEmpty = false := by simpa using hs'.1
      unfold argsL
      rw [if_pos hs]
      refine ⟨acc, [x2], rfl, rfl, ?_⟩
      refine while_no ?_
      simp -implicitDefEqProofs [lt_Parser_arguments_1, e_callM, callV_st h'.hn, hcs, try_p h', e1, hs'.2]
    · have hn : (!acc.isEmpty && isP l a t_sign [41]) = false := by simpa using hs
      have ht : lt_Parser_arguments_1 [some (.loc n), some (.loc I.length), x2] (st (I ++ [.lst acc]) n (ds l) e a) = .ok true (st (I ++ [.lst acc]) n (ds l) e a) := by
        by_cases e1 : acc.isEmpty = true
        · simp -implicitDefEqProofs [lt_Parser_arguments_1, hcs, e1]
        · have e1' : acc.isEmpty = false := by simpa using e1
          have e2 : isP l a t_sign [41] = false := by simpa [e1'] using hn
          simp -implicitDefEqProofs [lt_Parser_arguments_1, e_callM, callV_st h'.hn, hcs, try_p h', e1', e2]
      unfold argsL
      rw [if_neg hs]
      by_cases b1 : plainB l a = true
      · rw [if_pos b1]
        by_cases b2 : isP l (a + 1) t_sign [58] = true
        · rw [if_pos b2]
          have hv := fun a => value_ok (a := a) (e := e) h'
          cases ho : valueP l (a + 2) with
          | inl b =>
            refine ⟨.lst acc, while_err ht ?_⟩
            simp -implicitDefEqProofs [lb_Parser_arguments_1, e_callM, callV_st h'.hn, plain_p h', b1, skip_p h', b2, hla, hv, ho, PR.r, doc]
          | inr q =>
            obtain ⟨v, c⟩ := q
            have gv := value_good (a := a + 2) h.hg
            rw [ho] at gv
            have := kind_lt (plain_lt b1)
            dsimp only
            rw [while_nx (ρ2 := [some (.loc n), some (.loc I.length), some (wdP l a)]) (I2 := st (I ++ [.lst (acc ++ [.tup [wdP l a, v]])]) n (ds l) e c) ht ?_]
            · exact ih c _ _ k (by have := gv.2.1; omega) (by omega) (by rw [List.length_append]; simp; omega)
            · have hap := fun a => o_append (d := .tup [wdP l a, v]) (hc c) (by omega)
              simp -implicitDefEqProofs [lb_Parser_arguments_1, e_callM, callV_st h'.hn, plain_p h', b1, skip_p h', b2, hla, hv, ho, PR.r, hap, st_setc h.hn]
        · have b2' : isP l (a + 1) t_sign [58] = false := by simpa using b2
          rw [if_neg b2]
          refine ⟨.lst acc, while_err ht ?_⟩
          simp -implicitDefEqProofs [lb_Parser_arguments_1, e_callM, callV_st h'.hn, plain_p h', b1, skip_p h', b2']
      · have b1' : plainB l a = false := by simpa using b1
        rw [if_neg b1]
        refine ⟨.lst acc, while_err ht ?_⟩
        simp -implicitDefEqProofs [lb_Parser_arguments_1, e_callM, callV_st h'.hn, plain_p h', b1']
def argsP (l : List Wd) (a : Nat) : PR := if isP l a t_sign [40] then argsL l l.length (a + 1) [] else .inr (.tup [], a)
theorem argsP_good (g : Gds l) : (argsP l a).good l a 0 := by
  unfold argsP
  split
  · rename_i h
    have := is_lt h
    have g' := args_good g l.length (a + 1) [] unders0
    cases ho : argsL l l.length (a + 1) [] with
    | inl b => trivial
    | inr q => rw [ho] at g'; exact ⟨g'.1, by have := g'.2.1; omega, by have := g'.2.2; omega⟩
  · exact ⟨by simp, by omega, by omega⟩
theorem args_ok (h : Pr I n l) : F_Parser_arguments [.loc n] (st I n (ds l) e a) = (argsP l a).r l I n e := by
  have h' : Pr (I ++ [.lst []]) n l := h.app
  have hl := h.hl
  have gd := argsP_good (a := a) h.hg
  unfold F_Parser_arguments b_Parser_arguments
  rw [run_def]
  by_cases b1 : isP l a t_sign [40] = true
  · have := is_lt b1
    have lp := args_loop (e := e) h l.length (a + 1) [] none whileFuel (by omega) (by unfold whileFuel; omega) (by simp; omega)
    unfold argsP at gd ⊢
    rw [if_pos b1] at gd ⊢
    cases ho : argsL l l.length (a + 1) [] with
    | inl b =>
      rw [ho] at lp
      obtain ⟨c, hc⟩ := lp
      simp -implicitDefEqProofs [st_app h.hn, e_callM, callV_st h'.hn, try_p h', b1, whileS, hc, PR.r, doc, trim_in h]
    | inr q =>
      obtain ⟨v, p⟩ := q
      rw [ho] at lp gd
      obtain ⟨acc, ys, rfl, hy, hc⟩ := lp
      have htc := o_tuplecell (st_cell (I := I) (e := e) (a := p) (c := .lst acc) (ws := ds l) h.hn)
      simp -implicitDefEqProofs [st_app h.hn, e_callM, callV_st h'.hn, try_p h', b1, whileS, hc, PR.r, htc, fin_in h gd.1]
  · have b1' : isP l a t_sign [40] = false := by simpa using b1
    unfold argsP
    rw [if_neg b1]
    simp -implicitDefEqProofs [st_app h.hn, e_callM, callV_st h'.hn, try_p h', b1', PR.r, fin_in h]
theorem args_lloop (g : Gds l) (hl : l.length ≤ 1000000) (L : List D) : ∀ f j a acc x3 x4, j + f = l.length → acc.length + f ≤ 3000000 →
    ∃ c, thenS (forL ⟨L, none⟩ (nameT 3) lb_l_arguments_at_1 (upTo j l.length) [some (.lst (ds l)), some (nI a), some (.loc J.length), x3, x4] (J ++ [.lst acc])) (seqS (retS (tupE [(cV (.str t_bad)), (getV 1)])) nxS) = .ret (argsL l f a acc).t (J ++ [c]) := by
  have bo : ¬ t_ok = t_bad := by decide
  intro f
  induction f with
  | zero =>
    intro j a acc x3 x4 h1 h2
    rw [upTo_nil (by omega)]
    exact ⟨.lst acc, by simp -implicitDefEqProofs [for_nil, argsL, PR.t]⟩
  | succ f ih =>
    intro j a acc x3 x4 h1 h2
    rw [upTo_cons (by omega)]
    have hc := new_get (I := J) (c := .lst acc)
    have hcs := o_trucell hc
    have hla := o_isLst hc
    have htc := o_tuplecell hc
    have hnm : nameT 3 (nI j) [some (.lst (ds l)), some (nI a), some (.loc J.length), x3, x4] (J ++ [.lst acc]) = .nx [some (.lst (ds l)), some (nI a), some (.loc J.length), some (nI j), x4] (J ++ [.lst acc]) := rfl
    by_cases hs : (!acc.isEmpty && isP l a t_sign [41]) = true
    · have hs' := Bool.and_eq_true_iff.mp hs
      have e1 : acc.isEmpty = false := by simpa using hs'.1
      unfold argsL
      rw [if_pos hs, for_ret hnm (d := .tup [.str t_ok, .tup acc, nI (a + 1)]) (I2 := J ++ [.lst acc])]
      · exact ⟨.lst acc, rfl⟩
      · simp -implicitDefEqProofs [lb_l_arguments_at_1, hcs, e1, is_l g, hs'.2, htc]
    · have hn : (!acc.isEmpty && isP l a t_sign [41]) = false := by simpa using hs
      have ht : andT (truE (getV 2)) (truE (callE 4 F_l_is [(getV 0), (getV 1), (cV (.str t_sign)), (cV (.str [41]))])) [some (.lst (ds l)), some (nI a), some (.loc J.length), some (nI j), x4] (J ++ [.lst acc]) = .ok false (J ++ [.lst acc]) := by
        by_cases e1 : acc.isEmpty = true
        · simp -implicitDefEqProofs [hcs, e1]
        · have e1' : acc.isEmpty = false := by simpa using e1
          have e2 : isP l a t_sign [41] = false := by simpa [e1'] using hn
          simp -implicitDefEqProofs [hcs, e1', is_l g, e2]
      unfold argsL
      rw [if_neg hs]
      by_cases b1 : plainB l a = true
      · rw [if_pos b1]
        obtain ⟨x, hx, hxw⟩ := wd_l (plain_lt b1)
        by_cases b2 : isP l (a + 1) t_sign [58] = true
        · rw [if_pos b2]
          have hv := fun a J => l_value_ok (a := a) (J := J) g
          cases ho : valueP l (a + 2) with
          | inl b =>
            refine ⟨.lst acc, ?_⟩
            rw [for_ret hnm (d := .tup [.str t_bad, nI b]) (I2 := J ++ [.lst acc])]
            · rfl
            · simp -implicitDefEqProofs [lb_l_arguments_at_1, -e_andT, ht, plain_l g, b1, is_l g, b2, hv, ho, PR.t]
          | inr q =>
            obtain ⟨v, c⟩ := q
            have hap := o_append (d := .tup [x.w, v]) hc (by omega)
            rw [for_nx hnm (ρ2 := [some (.lst (ds l)), some (nI c), some (.loc J.length), some (nI j), some (.tup [.str t_ok, v, nI c])]) (I2 := J ++ [.lst (acc ++ [.tup [x.w, v]])])]
            · obtain ⟨c', hc'⟩ := ih (j + 1) c (acc ++ [.tup [x.w, v]]) (some (nI j)) (some (.tup [.str t_ok, v, nI c])) (by omega) (by rw [List.length_append]; simp; omega)
              refine ⟨c', ?_⟩
              rw [hc', hxw]
            · simp -implicitDefEqProofs [lb_l_arguments_at_1, -e_andT, ht, plain_l g, b1, is_l g, b2, hv, ho, PR.t, bo, hla, ds_ix hx, wd_dd, wd2, hap]
        · have b2' : isP l (a + 1) t_sign [58] = false := by simpa using b2
          rw [if_neg b2]
          refine ⟨.lst acc, ?_⟩
          rw [for_ret hnm (d := .tup [.str t_bad, nI (a + 1)]) (I2 := J ++ [.lst acc])]
          · rfl
          · simp -implicitDefEqProofs [lb_l_arguments_at_1, -e_andT, ht, plain_l g, b1, is_l g, b2']
      · have b1' : plainB l a = false := by simpa using b1
        rw [if_neg b1]
        refine ⟨.lst acc, ?_⟩
        rw [for_ret hnm (d := .tup [.str t_bad, nI a]) (I2 := J ++ [.lst acc])]
        · rfl
        · simp -implicitDefEqProofs [lb_l_arguments_at_1, -e_andT, ht, plain_l g, b1']
theorem l_args_ok (g : Gds l) (hl : l.length ≤ 1000000) : F_l_arguments_at [.lst (ds l), nI a] J = .ok (argsP l a).t J := by
  have gd := argsP_good (a := a) g
  unfold F_l_arguments_at b_l_arguments_at
  rw [run_def]
  have hl' : l.length ≤ 16777216 := by omega
  by_cases b1 : isP l a t_sign [40] = true
  · unfold argsP at gd ⊢
    rw [if_pos b1] at gd ⊢
    obtain ⟨c, hc⟩ := args_lloop (J := J) g hl (upTo 0 l.length) l.length 0 (a + 1) [] none none (by omega) (by simp; omega)
    simp -implicitDefEqProofs [is_l g, b1, ds_len, hl', hc, pr_finJ gd]
  · have b1' : isP l a t_sign [40] = false := by simpa using b1
    unfold argsP
    rw [if_neg b1]
    simp -implicitDefEqProofs [is_l g, b1', PR.t]
end
end K07
/-! K07E: declarations, conditions -/
namespace K07
open PySem PySem.Spec L2 MP
section
variable {I J : MH} {n e a b : Nat} {l : List Wd} {ρ : En}
theorem good_le {o : PR} {s s' a' : Nat} (g : o.good l a' s') (h1 : a + s ≤ a' + s') (h2 : a' ≤ max a l.length) : o.good l a s := by
  rcases o with b | ⟨v, c⟩
  · trivial
  · exact ⟨g.1, by have := g.2.1; omega, by have := g.2.2; omega⟩
/-! conditions -/
def condL (l : List Wd) : Nat → Nat → List D → PR
  | 0, a, _ => .inl a
  | f + 1, a, acc => if isP l a t_sign [64] then (if isP l (a + 1) t_name t_if || isP l (a + 1) t_name t_unless then (if isP l (a + 2) t_sign [40] then (match valueP l (a + 3) with
      | .inl b => .inl b
      | .inr (v, c) => if isP l c t_sign [41] then condL l f (c + 1) (acc ++ [.tup [wdP l (a + 1), v]]) else .inl c) else .inl (a + 2)) else .inl (a + 1)) else .inr (.tup acc, a)
theorem cond_good (g : Gds l) : ∀ f a acc, unders 0 acc = true → (condL l f a acc).good l a 0 := by
  intro f
  induction f with
  | zero => intro a acc _; trivial
  | succ f ih =>
    intro a acc hu
    unfold condL
    split
    · rename_i h0
      have := is_lt h0
      split
      · rename_i h1
        split
        · rename_i h2
          have := is_lt h2
          have gv := value_good (a := a + 3) g
          split
          · trivial
          · rename_i v c hv
            rw [hv] at gv
            obtain ⟨g1, g2, g3⟩ := gv
            split
            · rename_i h4
              have := is_lt h4
              exact good_le (ih (c + 1) (acc ++ [.tup [wdP l (a + 1), v]]) (by rw [unders_app, hu]; simp [wd_cl g, g1])) (by omega) (by omega)
            · trivial
        · trivial
      · trivial
    · exact ⟨by simp [hu], by omega, by omega⟩
theorem cond_loop (h : Pr I n l) : ∀ f a acc x2 k, l.length - a < f → f ≤ k → acc.length + f ≤ 3000000 →
    LoopM (condL l f a acc) l I n e 1 (whileN lt_Parser_conditions_1 lb_Parser_conditions_1 k [some (.loc n), some (.loc I.length), x2] (st (I ++ [.lst acc]) n (ds l) e a)) := by
  intro f
  induction f with
  | zero => intro a acc x2 k h1; omega
  | succ f ih =>
    intro a acc x2 k h1 h2 h3
    obtain ⟨k, rfl⟩ : ∃ j, k = j + 1 := ⟨k - 1, by omega⟩
    have h' : Pr (I ++ [.lst acc]) n l := h.app
    have hc := fun a => st_cell (I := I) (e := e) (a := a) (c := .lst acc) (ws := ds l) h.hn
    have hla := fun (a : Nat) => o_isLst (hc a)
    unfold condL
    by_cases b0 : isP l a t_sign [64] = true
    · have := is_lt b0
      rw [if_pos b0]
      have ht : lt_Parser_conditions_1 [some (.loc n), some (.loc I.length), x2] (st (I ++ [.lst acc]) n (ds l) e a) = .ok true (st (I ++ [.lst acc]) n (ds l) e (a + 1)) := by
        simp -implicitDefEqProofs [lt_Parser_conditions_1, e_callM, callV_st h'.hn, try_p h', b0]
      by_cases b1 : (isP l (a + 1) t_name t_if || isP l (a + 1) t_name t_unless) = true
      · rw [if_pos b1]
        have bk : kindP l (a + 1) t_name = true := by
          rcases Bool.or_eq_true_iff.mp b1 with z | z
          · exact is_kind z
          · exact is_kind z
        have hpass : ∀ (r s : SRes), (if isP l (a + 1) t_name t_if = true then r else if isP l (a + 1) t_name t_unless = true then r else s) = r := fun r s => by
          rcases Bool.or_eq_true_iff.mp b1 with z | z <;> simp [z]
        have htest : andT (notT (truE (callM M_Parser_conditions "is_next" (getV 0) [(cV (.str t_name)), (cV (.str t_if))]))) (notT (truE (callM M_Parser_conditions "is_next" (getV 0) [(cV (.str t_name)), (cV (.str t_unless))]))) [some (.loc n), some (.loc I.length), x2] (st (I ++ [.lst acc]) n (ds l) e (a + 1)) = .ok false (st (I ++ [.lst acc]) n (ds l) e (a + 1)) := by
          cases z1 : isP l (a + 1) t_name t_if <;> cases z2 : isP l (a + 1) t_name t_unless <;> simp [z1, z2] at b1 <;> simp -implicitDefEqProofs [e_callM, callV_st h'.hn, next_p h', z1, z2]
        by_cases b2 : isP l (a + 2) t_sign [40] = true
        · rw [if_pos b2]
          have hv := fun a => value_ok (a := a) (e := e) h'
          cases ho : valueP l (a + 3) with
          | inl b =>
            refine ⟨.lst acc, while_err ht ?_⟩
            simp -implicitDefEqProofs [lb_Parser_conditions_1, -e_andT, htest, e_callM, callV_st h'.hn, take_p h', bk, skip_p h', b2, hla, hv, ho, PR.r, doc]
          | inr q =>
            obtain ⟨v, c⟩ := q
            have gv := value_good (a := a + 3) h.hg
            rw [ho] at gv
            have hap := fun a => o_append (d := .tup [wdP l (a + 1), v]) (hc c) (by omega)
            have h'' : Pr (I ++ [.lst (acc ++ [.tup [wdP l (a + 1), v]])]) n l := h.app
            dsimp only
            by_cases b4 : isP l c t_sign [41] = true
            · rw [if_pos b4]
              rw [while_nx (ρ2 := [some (.loc n), some (.loc I.length), some (wdP l (a + 1))]) (I2 := st (I ++ [.lst (acc ++ [.tup [wdP l (a + 1), v]])]) n (ds l) e (c + 1)) ht ?_]
              · exact ih (c + 1) _ _ k (by have := gv.2.1; omega) (by omega) (by rw [List.length_append]; simp; omega)
              · simp -implicitDefEqProofs [lb_Parser_conditions_1, -e_andT, htest, e_callM, callV_st h'.hn, callV_st h''.hn, take_p h', bk, skip_p h', b2, hla, hv, ho, PR.r, hap, st_setc h.hn, skip_p h'', b4]
            · have b4' : isP l c t_sign [41] = false := by simpa using b4
              rw [if_neg b4]
              refine ⟨.lst (acc ++ [.tup [wdP l (a + 1), v]]), while_err ht ?_⟩
              simp -implicitDefEqProofs [lb_Parser_conditions_1, -e_andT, htest, e_callM, callV_st h'.hn, callV_st h''.hn, take_p h', bk, skip_p h', b2, hla, hv, ho, PR.r, hap, st_setc h.hn, skip_p h'', b4', doc]
        · have b2' : isP l (a + 2) t_sign [40] = false := by simpa using b2
          rw [if_neg b2]
          refine ⟨.lst acc, while_err ht ?_⟩
          simp -implicitDefEqProofs [lb_Parser_conditions_1, -e_andT, htest, e_callM, callV_st h'.hn, take_p h', bk, skip_p h', b2']
      · have b1' : (isP l (a + 1) t_name t_if || isP l (a + 1) t_name t_unless) = false := by simpa using b1
        rw [if_neg b1]
        have z := Bool.or_eq_false_iff.mp b1'
        refine ⟨.lst acc, while_err ht ?_⟩
        simp -implicitDefEqProofs [lb_Parser_conditions_1, e_callM, callV_st h'.hn, next_p h', z.1, z.2, fail_p h']
    · have b0' : isP l a t_sign [64] = false := by simpa using b0
      rw [if_neg b0]
      refine ⟨acc, [x2], rfl, rfl, while_no ?_⟩
      simp -implicitDefEqProofs [lt_Parser_conditions_1, e_callM, callV_st h'.hn, try_p h', b0']
def condP (l : List Wd) (a : Nat) : PR := condL l (l.length + 1) a []
theorem condP_good (g : Gds l) : (condP l a).good l a 0 := cond_good g _ _ _ unders0
theorem cond_ok (h : Pr I n l) : F_Parser_conditions [.loc n] (st I n (ds l) e a) = (condP l a).r l I n e := by
  have hl := h.hl
  have gd := condP_good (a := a) h.hg
  unfold F_Parser_conditions b_Parser_conditions
  rw [run_def]
  have lp := cond_loop (e := e) h (l.length + 1) a [] none whileFuel (by omega) (by unfold whileFuel; omega) (by simp; omega)
  unfold condP at gd ⊢
  cases ho : condL l (l.length + 1) a [] with
  | inl b =>
    rw [ho] at lp
    obtain ⟨c, hc⟩ := lp
    simp -implicitDefEqProofs [st_app h.hn, whileS, hc, PR.r, doc, trim_in h]
  | inr q =>
    obtain ⟨v, p⟩ := q
    rw [ho] at lp gd
    obtain ⟨acc, ys, rfl, hy, hc⟩ := lp
    have htc := o_tuplecell (st_cell (I := I) (e := e) (a := p) (c := .lst acc) (ws := ds l) h.hn)
    simp -implicitDefEqProofs [st_app h.hn, whileS, hc, PR.r, htc, fin_in h gd.1]
theorem cond_lloop (g : Gds l) (hl : l.length ≤ 1000000) (L : List D) : ∀ f j a acc x3 x4, j + f = l.length + 1 → acc.length + f ≤ 3000000 →
    ∃ c, thenS (forL ⟨L, none⟩ (nameT 3) lb_l_conditions_at_1 (upTo j (l.length + 1)) [some (.lst (ds l)), some (nI a), some (.loc J.length), x3, x4] (J ++ [.lst acc])) (seqS (retS (tupE [(cV (.str t_bad)), (getV 1)])) nxS) = .ret (condL l f a acc).t (J ++ [c]) := by
  have bo : ¬ t_ok = t_bad := by decide
  intro f
  induction f with
  | zero =>
    intro j a acc x3 x4 h1 h2
    rw [upTo_nil (by omega)]
    exact ⟨.lst acc, by simp -implicitDefEqProofs [for_nil, condL, PR.t]⟩
  | succ f ih =>
    intro j a acc x3 x4 h1 h2
    rw [upTo_cons (by omega)]
    have hc := new_get (I := J) (c := .lst acc)
    have hla := o_isLst hc
    have htc := o_tuplecell hc
    have hnm : nameT 3 (nI j) [some (.lst (ds l)), some (nI a), some (.loc J.length), x3, x4] (J ++ [.lst acc]) = .nx [some (.lst (ds l)), some (nI a), some (.loc J.length), some (nI j), x4] (J ++ [.lst acc]) := rfl
    unfold condL
    by_cases b0 : isP l a t_sign [64] = true
    · rw [if_pos b0]
      by_cases b1 : (isP l (a + 1) t_name t_if || isP l (a + 1) t_name t_unless) = true
      · rw [if_pos b1]
        have bk : kindP l (a + 1) t_name = true := by
          rcases Bool.or_eq_true_iff.mp b1 with z | z
          · exact is_kind z
          · exact is_kind z
        obtain ⟨x, hx, hxw⟩ := wd_l bk
        have htest : andT (notT (truE (callE 4 F_l_is [(getV 0), (bin2 addD (getV 1) (cV (.int 1))), (cV (.str t_name)), (cV (.str t_if))]))) (notT (truE (callE 4 F_l_is [(getV 0), (bin2 addD (getV 1) (cV (.int 1))), (cV (.str t_name)), (cV (.str t_unless))]))) [some (.lst (ds l)), some (nI a), some (.loc J.length), some (nI j), x4] (J ++ [.lst acc]) = .ok false (J ++ [.lst acc]) := by
          cases z1 : isP l (a + 1) t_name t_if <;> cases z2 : isP l (a + 1) t_name t_unless <;> simp [z1, z2] at b1 <;> simp -implicitDefEqProofs [is_l g, z1, z2]
        by_cases b2 : isP l (a + 2) t_sign [40] = true
        · rw [if_pos b2]
          have hv := fun a J => l_value_ok (a := a) (J := J) g
          cases ho : valueP l (a + 3) with
          | inl b =>
            refine ⟨.lst acc, ?_⟩
            rw [for_ret hnm (d := .tup [.str t_bad, nI b]) (I2 := J ++ [.lst acc])]
            · rfl
            · simp -implicitDefEqProofs [lb_l_conditions_at_1, -e_andT, htest, is_l g, b0, b2, hv, ho, PR.t]
          | inr q =>
            obtain ⟨v, c⟩ := q
            have hap := o_append (d := .tup [x.w, v]) hc (by omega)
            dsimp only
            by_cases b4 : isP l c t_sign [41] = true
            · rw [if_pos b4]
              rw [for_nx hnm (ρ2 := [some (.lst (ds l)), some (nI (c + 1)), some (.loc J.length), some (nI j), some (.tup [.str t_ok, v, nI c])]) (I2 := J ++ [.lst (acc ++ [.tup [x.w, v]])])]
              · obtain ⟨c', hc'⟩ := ih (j + 1) (c + 1) (acc ++ [.tup [x.w, v]]) (some (nI j)) (some (.tup [.str t_ok, v, nI c])) (by omega) (by rw [List.length_append]; simp; omega)
                refine ⟨c', ?_⟩
                rw [hc', hxw]
              · simp -implicitDefEqProofs [lb_l_conditions_at_1, -e_andT, htest, is_l g, b0, b2, hv, ho, PR.t, bo, b4, hla, ds_ix hx, wd_dd, wd2, hap]
            · have b4' : isP l c t_sign [41] = false := by simpa using b4
              rw [if_neg b4]
              refine ⟨.lst acc, ?_⟩
              rw [for_ret hnm (d := .tup [.str t_bad, nI c]) (I2 := J ++ [.lst acc])]
              · rfl
              · simp -implicitDefEqProofs [lb_l_conditions_at_1, -e_andT, htest, is_l g, b0, b2, hv, ho, PR.t, bo, b4']
        · have b2' : isP l (a + 2) t_sign [40] = false := by simpa using b2
          rw [if_neg b2]
          refine ⟨.lst acc, ?_⟩
          rw [for_ret hnm (d := .tup [.str t_bad, nI (a + 2)]) (I2 := J ++ [.lst acc])]
          · rfl
          · simp -implicitDefEqProofs [lb_l_conditions_at_1, -e_andT, htest, is_l g, b0, b2']
      · have b1' : (isP l (a + 1) t_name t_if || isP l (a + 1) t_name t_unless) = false := by simpa using b1
        rw [if_neg b1]
        have z := Bool.or_eq_false_iff.mp b1'
        refine ⟨.lst acc, ?_⟩
        rw [for_ret hnm (d := .tup [.str t_bad, nI (a + 1)]) (I2 := J ++ [.lst acc])]
        · rfl
        · simp -implicitDefEqProofs [lb_l_conditions_at_1, is_l g, b0, z.1, z.2]
    · have b0' : isP l a t_sign [64] = false := by simpa using b0
      rw [if_neg b0]
      refine ⟨.lst acc, ?_⟩
      rw [for_ret hnm (d := .tup [.str t_ok, .tup acc, nI a]) (I2 := J ++ [.lst acc])]
      · rfl
      · simp -implicitDefEqProofs [lb_l_conditions_at_1, is_l g, b0', htc]
theorem l_cond_ok (g : Gds l) (hl : l.length ≤ 1000000) : F_l_conditions_at [.lst (ds l), nI a] J = .ok (condP l a).t J := by
  have gd := condP_good (a := a) g
  unfold F_l_conditions_at b_l_conditions_at
  rw [run_def]
  have hl' : l.length + 1 ≤ 16777216 := by omega
  unfold condP at gd ⊢
  obtain ⟨c, hc⟩ := cond_lloop (J := J) g hl (upTo 0 (l.length + 1)) (l.length + 1) 0 a [] none none (by omega) (by simp; omega)
  simp -implicitDefEqProofs [ds_len, hl', hc, pr_finJ gd]
/-! declarations -/
def declL (l : List Wd) : Nat → Nat → List D → PR
  | 0, a, _ => .inl a
  | f + 1, a, acc => if !acc.isEmpty && isP l a t_sign [41] then .inr (.tup acc, a + 1)
    else if kindP l a t_variable then (if isP l (a + 1) t_sign [58] then (match typeP l 5 (a + 2) with
      | .inl b => .inl b
      | .inr (v, c) => if isP l c t_sign [61] then (match constP l (c + 1) with
        | .inl b => .inl b
        | .inr (w, p) => declL l f p (acc ++ [.tup [wdP l a, v, w]])) else declL l f c (acc ++ [.tup [wdP l a, v, .non]])) else .inl (a + 1)) else .inl a
theorem decl_good (g : Gds l) : ∀ f a acc, unders 0 acc = true → (declL l f a acc).good l a 0 := by
  intro f
  induction f with
  | zero => intro a acc _; trivial
  | succ f ih =>
    intro a acc hu
    unfold declL
    split
    · rename_i h; have := is_lt (Bool.and_eq_true_iff.mp h).2; exact ⟨by simp [hu], by omega, by omega⟩
    split
    · rename_i h1
      have := kind_lt h1
      split
      · rename_i h2
        have := is_lt h2
        have gv := type_good g 5 (a + 2)
        split
        · trivial
        · rename_i v c hv
          rw [hv] at gv
          obtain ⟨g1, g2, g3⟩ := gv
          split
          · rename_i h4
            have := is_lt h4
            have gw := const_good (a := c + 1) g
            split
            · trivial
            · rename_i w p hp
              rw [hp] at gw
              obtain ⟨w1, w2, w3⟩ := gw
              exact good_le (ih p (acc ++ [.tup [wdP l a, v, w]]) (by rw [unders_app, hu]; simp [wd_cl g, g1, w1])) (by omega) (by omega)
          · exact good_le (ih c (acc ++ [.tup [wdP l a, v, .non]]) (by rw [unders_app, hu]; simp [wd_cl g, g1])) (by omega) (by omega)
      · trivial
    · trivial
theorem decl_loop (h : Pr I n l) : ∀ f a acc x2 x3 x4 k, l.length - a < f → f ≤ k → acc.length + f ≤ 3000000 →
    LoopM (declL l f a acc) l I n e 3 (whileN lt_Parser_declarations_1 lb_Parser_declarations_1 k [some (.loc n), some (.loc I.length), x2, x3, x4] (st (I ++ [.lst acc]) n (ds l) e a)) := by
  intro f
  induction f with
  | zero => intro a acc x2 x3 x4 k h1; omega
  | succ f ih =>
    intro a acc x2 x3 x4 k h1 h2 h3
    obtain ⟨k, rfl⟩ : ∃ j, k = j + 1 := ⟨k - 1, by omega⟩
    have h' : Pr (I ++ [.lst acc]) n l := h.app
    have hc := fun a => st_cell (I := I) (e := e) (a := a) (c := .lst acc) (ws := ds l) h.hn
    have hcs := fun a => o_trucell (hc a)
    have hla := fun (a : Nat) => o_isLst (hc a)
    have hty : ∀ a, W_Parser_type_at 60 0 [.loc n, .int 5] (st (I ++ [.lst acc]) n (ds l) e a) = (typeP l 5 a).r l (I ++ [.lst acc]) n e := fun a => type_ok h' 5 60 a (by omega)
    by_cases hs : (!acc.isEmpty && isP l a t_sign [41]) = true
    · have hs' := Bool.and_eq_true_iff.mp hs
      have e1 : acc.isEmpty = false := by simpa using hs'.1
      unfold declL
      rw [if_pos hs]
      refine ⟨acc, [x2, x3, x4], rfl, rfl, ?_⟩
      refine while_no ?_
      simp -implicitDefEqProofs [lt_Parser_declarations_1, e_callM, callV_st h'.hn, hcs, try_p h', e1, hs'.2]
    · have hn : (!acc.isEmpty && isP l a t_sign [41]) = false := by simpa using hs
      have ht : lt_Parser_declarations_1 [some (.loc n), some (.loc I.length), x2, x3, x4] (st (I ++ [.lst acc]) n (ds l) e a) = .ok true (st (I ++ [.lst acc]) n (ds l) e a) := by
        by_cases e1 : acc.isEmpty = true
        · simp -implicitDefEqProofs [lt_Parser_declarations_1, hcs, e1]
        · have e1' : acc.isEmpty = false := by simpa using e1
          have e2 : isP l a t_sign [41] = false := by simpa [e1'] using hn
          simp -implicitDefEqProofs [lt_Parser_declarations_1, e_callM, callV_st h'.hn, hcs, try_p h', e1', e2]
      unfold declL
      rw [if_neg hs]
      by_cases b1 : kindP l a t_variable = true
      · rw [if_pos b1]
        have := kind_lt b1
        by_cases b2 : isP l (a + 1) t_sign [58] = true
        · rw [if_pos b2]
          have hv := fun a => constant_ok (a := a) (e := e) h'
          have gt := type_good h.hg 5 (a + 2)
          cases ho : typeP l 5 (a + 2) with
          | inl b =>
            refine ⟨.lst acc, while_err ht ?_⟩
            simp -implicitDefEqProofs [lb_Parser_declarations_1, e_callM, callV_st h'.hn, take_p h', b1, skip_p h', b2, hty, ho, PR.r, doc]
          | inr q =>
            obtain ⟨v, c⟩ := q
            rw [ho] at gt
            dsimp only
            by_cases b4 : isP l c t_sign [61] = true
            · rw [if_pos b4]
              cases hw : constP l (c + 1) with
              | inl b =>
                refine ⟨.lst acc, while_err ht ?_⟩
                simp -implicitDefEqProofs [lb_Parser_declarations_1, e_callM, callV_st h'.hn, take_p h', b1, skip_p h', b2, hty, ho, try_p h', b4, hv, hw, PR.r, doc]
              | inr q =>
                obtain ⟨w, p⟩ := q
                have gw := const_good (a := c + 1) h.hg
                rw [hw] at gw
                dsimp only
                have hap := fun a => o_append (d := .tup [wdP l a, v, w]) (hc p) (by omega)
                rw [while_nx (ρ2 := [some (.loc n), some (.loc I.length), some (wdP l a), some v, some w]) (I2 := st (I ++ [.lst (acc ++ [.tup [wdP l a, v, w]])]) n (ds l) e p) ht ?_]
                · exact ih p _ _ _ _ k (by have := gt.2.1; have := gw.2.1; omega) (by omega) (by rw [List.length_append]; simp; omega)
                · simp -implicitDefEqProofs [lb_Parser_declarations_1, e_callM, callV_st h'.hn, take_p h', b1, skip_p h', b2, hty, ho, try_p h', b4, hv, hw, PR.r, hla, hap, st_setc h.hn]
            · have b4' : isP l c t_sign [61] = false := by simpa using b4
              rw [if_neg b4]
              have hap := fun a => o_append (d := .tup [wdP l a, v, .non]) (hc c) (by omega)
              rw [while_nx (ρ2 := [some (.loc n), some (.loc I.length), some (wdP l a), some v, some .non]) (I2 := st (I ++ [.lst (acc ++ [.tup [wdP l a, v, .non]])]) n (ds l) e c) ht ?_]
              · exact ih c _ _ _ _ k (by have := gt.2.1; omega) (by omega) (by rw [List.length_append]; simp; omega)
              · simp -implicitDefEqProofs [lb_Parser_declarations_1, e_callM, callV_st h'.hn, take_p h', b1, skip_p h', b2, hty, ho, try_p h', b4', PR.r, hla, hap, st_setc h.hn]
        · have b2' : isP l (a + 1) t_sign [58] = false := by simpa using b2
          rw [if_neg b2]
          refine ⟨.lst acc, while_err ht ?_⟩
          simp -implicitDefEqProofs [lb_Parser_declarations_1, e_callM, callV_st h'.hn, take_p h', b1, skip_p h', b2']
      · have b1' : kindP l a t_variable = false := by simpa using b1
        rw [if_neg b1]
        refine ⟨.lst acc, while_err ht ?_⟩
        simp -implicitDefEqProofs [lb_Parser_declarations_1, e_callM, callV_st h'.hn, take_p h', b1']
def declP (l : List Wd) (a : Nat) : PR := if isP l a t_sign [40] then declL l l.length (a + 1) [] else .inr (.tup [], a)
theorem declP_good (g : Gds l) : (declP l a).good l a 0 := by
  unfold declP
  split
  · rename_i h
    have := is_lt h
    exact good_le (decl_good g l.length (a + 1) [] unders0) (by omega) (by omega)
  · exact ⟨by simp, by omega, by omega⟩
theorem decl_ok (h : Pr I n l) : F_Parser_declarations [.loc n] (st I n (ds l) e a) = (declP l a).r l I n e := by
  have h' : Pr (I ++ [.lst []]) n l := h.app
  have hl := h.hl
  have gd := declP_good (a := a) h.hg
  unfold F_Parser_declarations b_Parser_declarations
  rw [run_def]
  by_cases b1 : isP l a t_sign [40] = true
  · have := is_lt b1
    have lp := decl_loop (e := e) h l.length (a + 1) [] none none none whileFuel (by omega) (by unfold whileFuel; omega) (by simp; omega)
    unfold declP at gd ⊢
    rw [if_pos b1] at gd ⊢
    cases ho : declL l l.length (a + 1) [] with
    | inl b =>
      rw [ho] at lp
      obtain ⟨c, hc⟩ := lp
      simp -implicitDefEqProofs [st_app h.hn, e_callM, callV_st h'.hn, try_p h', b1, whileS, hc, PR.r, doc, trim_in h]
    | inr q =>
      obtain ⟨v, p⟩ := q
      rw [ho] at lp gd
      obtain ⟨acc, ys, rfl, hy, hc⟩ := lp
      have htc := o_tuplecell (st_cell (I := I) (e := e) (a := p) (c := .lst acc) (ws := ds l) h.hn)
      simp -implicitDefEqProofs [st_app h.hn, e_callM, callV_st h'.hn, try_p h', b1, whileS, hc, PR.r, htc, fin_in h gd.1]
  · have b1' : isP l a t_sign [40] = false := by simpa using b1
    unfold declP
    rw [if_neg b1]
    simp -implicitDefEqProofs [st_app h.hn, e_callM, callV_st h'.hn, try_p h', b1', PR.r, fin_in h]
theorem decl_lloop (g : Gds l) (hl : l.length ≤ 1000000) (L : List D) : ∀ f j a acc x3 x4 x5, j + f = l.length → acc.length + f ≤ 3000000 →
    ∃ c, thenS (forL ⟨L, none⟩ (nameT 3) lb_l_declared_1 (upTo j l.length) [some (.lst (ds l)), some (nI a), some (.loc J.length), x3, x4, x5] (J ++ [.lst acc])) (seqS (retS (tupE [(cV (.str t_bad)), (getV 1)])) nxS) = .ret (declL l f a acc).t (J ++ [c]) := by
  have bo : ¬ t_ok = t_bad := by decide
  have hty : ∀ a J, W_l_type_at 60 0 [.lst (ds l), nI a, .int 0] J = .ok (typeP l 5 a).t J := fun a J => l_type_ok g 5 0 60 a J rfl (by omega)
  have hk := fun a J => l_constant_ok (a := a) (J := J) g
  intro f
  induction f with
  | zero =>
    intro j a acc x3 x4 x5 h1 h2
    rw [upTo_nil (by omega)]
    exact ⟨.lst acc, by simp -implicitDefEqProofs [for_nil, declL, PR.t]⟩
  | succ f ih =>
    intro j a acc x3 x4 x5 h1 h2
    rw [upTo_cons (by omega)]
    have hc := new_get (I := J) (c := .lst acc)
    have hcs := o_trucell hc
    have hla := o_isLst hc
    have htc := o_tuplecell hc
    have hnm : nameT 3 (nI j) [some (.lst (ds l)), some (nI a), some (.loc J.length), x3, x4, x5] (J ++ [.lst acc]) = .nx [some (.lst (ds l)), some (nI a), some (.loc J.length), some (nI j), x4, x5] (J ++ [.lst acc]) := rfl
    by_cases hs : (!acc.isEmpty && isP l a t_sign [41]) = true
    · have hs' := Bool.and_eq_true_iff.mp hs
      have e1 : acc.isEmpty = false := by simpa using hs'.1
      unfold declL
      rw [if_pos hs, for_ret hnm (d := .tup [.str t_ok, .tup acc, nI (a + 1)]) (I2 := J ++ [.lst acc])]
      · exact ⟨.lst acc, rfl⟩
      · simp -implicitDefEqProofs [lb_l_declared_1, hcs, e1, is_l g, hs'.2, htc]
    · have hn : (!acc.isEmpty && isP l a t_sign [41]) = false := by simpa using hs
      have ht : andT (truE (getV 2)) (truE (callE 4 F_l_is [(getV 0), (getV 1), (cV (.str t_sign)), (cV (.str [41]))])) [some (.lst (ds l)), some (nI a), some (.loc J.length), some (nI j), x4, x5] (J ++ [.lst acc]) = .ok false (J ++ [.lst acc]) := by
        by_cases e1 : acc.isEmpty = true
        · simp -implicitDefEqProofs [hcs, e1]
        · have e1' : acc.isEmpty = false := by simpa using e1
          have e2 : isP l a t_sign [41] = false := by simpa [e1'] using hn
          simp -implicitDefEqProofs [hcs, e1', is_l g, e2]
      unfold declL
      rw [if_neg hs]
      by_cases b1 : kindP l a t_variable = true
      · rw [if_pos b1]
        obtain ⟨x, hx, hxw⟩ := wd_l b1
        by_cases b2 : isP l (a + 1) t_sign [58] = true
        · rw [if_pos b2]
          cases ho : typeP l 5 (a + 2) with
          | inl b =>
            refine ⟨.lst acc, ?_⟩
            rw [for_ret hnm (d := .tup [.str t_bad, nI b]) (I2 := J ++ [.lst acc])]
            · rfl
            · simp -implicitDefEqProofs [lb_l_declared_1, -e_andT, ht, l_kind_ok, b1, is_l g, b2, hty, ho, PR.t]
          | inr q =>
            obtain ⟨v, c⟩ := q
            dsimp only
            by_cases b4 : isP l c t_sign [61] = true
            · rw [if_pos b4]
              cases hw : constP l (c + 1) with
              | inl b =>
                refine ⟨.lst acc, ?_⟩
                rw [for_ret hnm (d := .tup [.str t_bad, nI b]) (I2 := J ++ [.lst acc])]
                · rfl
                · simp -implicitDefEqProofs [lb_l_declared_1, -e_andT, ht, l_kind_ok, b1, is_l g, b2, hty, ho, PR.t, bo, b4, hk, hw]
              | inr q =>
                obtain ⟨w, p⟩ := q
                have hap := o_append (d := .tup [x.w, v, w]) hc (by omega)
                dsimp only
                rw [for_nx hnm (ρ2 := [some (.lst (ds l)), some (nI p), some (.loc J.length), some (nI j), some (.tup [.str t_ok, v, nI c]), some (.tup [.str t_ok, w, nI p])]) (I2 := J ++ [.lst (acc ++ [.tup [x.w, v, w]])])]
                · obtain ⟨c', hc'⟩ := ih (j + 1) p (acc ++ [.tup [x.w, v, w]]) (some (nI j)) (some (.tup [.str t_ok, v, nI c])) (some (.tup [.str t_ok, w, nI p])) (by omega) (by rw [List.length_append]; simp; omega)
                  refine ⟨c', ?_⟩
                  rw [hc', hxw]
                · simp -implicitDefEqProofs [lb_l_declared_1, -e_andT, ht, l_kind_ok, b1, is_l g, b2, hty, ho, PR.t, bo, b4, hk, hw, hla, ds_ix hx, wd_dd, wd2, hap]
            · have b4' : isP l c t_sign [61] = false := by simpa using b4
              rw [if_neg b4]
              have hap := o_append (d := .tup [x.w, v, .non]) hc (by omega)
              rw [for_nx hnm (ρ2 := [some (.lst (ds l)), some (nI c), some (.loc J.length), some (nI j), some (.tup [.str t_ok, v, nI c]), some (.tup [.str t_ok, .non, nI c])]) (I2 := J ++ [.lst (acc ++ [.tup [x.w, v, .non]])])]
              · obtain ⟨c', hc'⟩ := ih (j + 1) c (acc ++ [.tup [x.w, v, .non]]) (some (nI j)) (some (.tup [.str t_ok, v, nI c])) (some (.tup [.str t_ok, .non, nI c])) (by omega) (by rw [List.length_append]; simp; omega)
                refine ⟨c', ?_⟩
                rw [hc', hxw]
              · simp -implicitDefEqProofs [lb_l_declared_1, -e_andT, ht, l_kind_ok, b1, is_l g, b2, hty, ho, PR.t, bo, b4', hla, ds_ix hx, wd_dd, wd2, hap]
        · have b2' : isP l (a + 1) t_sign [58] = false := by simpa using b2
          rw [if_neg b2]
          refine ⟨.lst acc, ?_⟩
          rw [for_ret hnm (d := .tup [.str t_bad, nI (a + 1)]) (I2 := J ++ [.lst acc])]
          · rfl
          · simp -implicitDefEqProofs [lb_l_declared_1, -e_andT, ht, l_kind_ok, b1, is_l g, b2']
      · have b1' : kindP l a t_variable = false := by simpa using b1
        rw [if_neg b1]
        refine ⟨.lst acc, ?_⟩
        rw [for_ret hnm (d := .tup [.str t_bad, nI a]) (I2 := J ++ [.lst acc])]
        · rfl
        · simp -implicitDefEqProofs [lb_l_declared_1, -e_andT, ht, l_kind_ok, b1']
theorem l_decl_ok (g : Gds l) (hl : l.length ≤ 1000000) : F_l_declared [.lst (ds l), nI a] J = .ok (declP l a).t J := by
  have gd := declP_good (a := a) g
  unfold F_l_declared b_l_declared
  rw [run_def]
  have hl' : l.length ≤ 16777216 := by omega
  by_cases b1 : isP l a t_sign [40] = true
  · unfold declP at gd ⊢
    rw [if_pos b1] at gd ⊢
    obtain ⟨c, hc⟩ := decl_lloop (J := J) g hl (upTo 0 l.length) l.length 0 (a + 1) [] none none none (by omega) (by simp; omega)
    simp -implicitDefEqProofs [is_l g, b1, ds_len, hl', hc, pr_finJ gd]
  · have b1' : isP l a t_sign [40] = false := by simpa using b1
    unfold declP
    rw [if_neg b1]
    simp -implicitDefEqProofs [is_l g, b1', PR.t]
end
end K07
/-! K07F: selections: the plain reading and the parser's -/
namespace K07
open PySem PySem.Spec L2 MP
section
variable {I J : MH} {n e a b : Nat} {l : List Wd} {ρ : En}
def restF (sel : Nat → PR) (l : List Wd) (key nm : D) (a : Nat) : PR := match argsP l a with
  | .inl b => .inl b
  | .inr (v1, c1) => match condP l c1 with
    | .inl b => .inl b
    | .inr (v2, c2) => if isP l c2 t_sign [123] then (match sel c2 with
      | .inl b => .inl b
      | .inr (v3, c3) => .inr (.tup [.str t_field, key, nm, v1, v2, v3], c3)) else .inr (.tup [.str t_field, key, nm, v1, v2, .non], c2)
def fieldP (sel : Nat → PR) (l : List Wd) (a : Nat) : PR := if kindP l a t_name then (if isP l (a + 1) t_sign [58] then (if isP l a t_name t_meta then .inl (a + 1) else if kindP l (a + 2) t_name then restF sel l (wdP l a) (wdP l (a + 2)) (a + 3) else .inl (a + 2))
    else restF sel l (wdP l a) (wdP l a) (a + 1)) else .inl a
def restS (sel : Nat → PR) (l : List Wd) (nm : D) (a : Nat) : PR := match condP l a with
  | .inl b => .inl b
  | .inr (v1, c1) => match sel c1 with
    | .inl b => .inl b
    | .inr (v2, c2) => .inr (.tup [.str t_on, nm, v1, v2], c2)
def spreadP (sel : Nat → PR) (l : List Wd) (a : Nat) : PR := if isP l a t_name t_on then (if plainB l (a + 1) then restS sel l (wdP l (a + 1)) (a + 2) else .inl (a + 1))
    else if kindP l a t_name then (if plainB l a then (match condP l (a + 1) with
      | .inl b => .inl b
      | .inr (v, c) => .inr (.tup [.str t_spread, wdP l a, v], c)) else .inl a)
    else restS sel l .non a
def partsL (fs ff : Nat → PR) (l : List Wd) : Nat → Nat → List D → PR
  | 0, a, _ => .inl a
  | f + 1, a, acc => if !acc.isEmpty && isP l a t_sign [125] then .inr (.tup acc, a + 1) else match (if isP l a t_sign t_dots then fs (a + 1) else ff a) with
    | .inl b => .inl b
    | .inr (v, c) => partsL fs ff l f c (acc ++ [v])
def selP (l : List Wd) : Nat → Nat → PR
  | 0, a => .inl a
  | d + 1, a => if isP l a t_sign [123] then partsL (spreadP (selP l d) l) (fieldP (selP l d) l) l l.length (a + 1) [] else .inl a
theorem restF_good {sel : Nat → PR} (g : Gds l) (hs : ∀ a, (sel a).good l a 1) {key nm : D} (hk : key.under 0 = true) (hm : nm.under 0 = true) : (restF sel l key nm a).good l a 0 := by
  unfold restF
  have g1 := argsP_good (a := a) g
  split
  · trivial
  · rename_i v1 c1 h1
    rw [h1] at g1
    have g2 := condP_good (a := c1) g
    split
    · trivial
    · rename_i v2 c2 h2
      rw [h2] at g2
      split
      · have g3 := hs c2
        split
        · trivial
        · rename_i v3 c3 h3
          rw [h3] at g3
          exact ⟨by simp [hk, hm, g1.1, g2.1, g3.1], by have := g1.2.1; have := g2.2.1; have := g3.2.1; omega, by have := g1.2.2; have := g2.2.2; have := g3.2.2; omega⟩
      · exact ⟨by simp [hk, hm, g1.1, g2.1], by have := g1.2.1; have := g2.2.1; omega, by have := g1.2.2; have := g2.2.2; omega⟩
theorem fieldP_good {sel : Nat → PR} (g : Gds l) (hs : ∀ a, (sel a).good l a 1) : (fieldP sel l a).good l a 1 := by
  unfold fieldP
  split
  · rename_i h1
    have := kind_lt h1
    split
    · rename_i h2
      have := is_lt h2
      split
      · trivial
      · split
        · rename_i h3
          have := kind_lt h3
          exact good_le (restF_good g hs (wd_cl g) (wd_cl g)) (by omega) (by omega)
        · trivial
    · exact good_le (restF_good g hs (wd_cl g) (wd_cl g)) (by omega) (by omega)
  · trivial
theorem restS_good {sel : Nat → PR} (g : Gds l) (hs : ∀ a, (sel a).good l a 1) {nm : D} (hm : nm.under 0 = true) : (restS sel l nm a).good l a 1 := by
  unfold restS
  have g1 := condP_good (a := a) g
  split
  · trivial
  · rename_i v1 c1 h1
    rw [h1] at g1
    have g2 := hs c1
    split
    · trivial
    · rename_i v2 c2 h2
      rw [h2] at g2
      exact ⟨by simp [hm, g1.1, g2.1], by have := g1.2.1; have := g2.2.1; omega, by have := g1.2.2; have := g2.2.2; omega⟩
theorem spreadP_good {sel : Nat → PR} (g : Gds l) (hs : ∀ a, (sel a).good l a 1) : (spreadP sel l a).good l a 1 := by
  unfold spreadP
  split
  · rename_i h1
    have := is_lt h1
    split
    · rename_i h2
      have := kind_lt (plain_lt h2)
      exact good_le (restS_good g hs (wd_cl g)) (by omega) (by omega)
    · trivial
  split
  · rename_i h1
    have := kind_lt h1
    split
    · have g1 := condP_good (a := a + 1) g
      split
      · trivial
      · rename_i v c h3
        rw [h3] at g1
        exact ⟨by simp [wd_cl g, g1.1], by have := g1.2.1; omega, by have := g1.2.2; omega⟩
    · trivial
  · exact restS_good g hs (by simp)
theorem parts_good {fs ff : Nat → PR} (hfs : ∀ a, (fs a).good l a 1) (hff : ∀ a, (ff a).good l a 1) : ∀ f a acc, unders 0 acc = true → (partsL fs ff l f a acc).good l a 0 := by
  intro f
  induction f with
  | zero => intro a acc _; trivial
  | succ f ih =>
    intro a acc hu
    unfold partsL
    split
    · rename_i h; have := is_lt (Bool.and_eq_true_iff.mp h).2; exact ⟨by simp [hu], by omega, by omega⟩
    have gp : (if isP l a t_sign t_dots then fs (a + 1) else ff a).good l a 1 := by
      split
      · rename_i h2
        have := is_lt h2
        exact good_le (hfs (a + 1)) (by omega) (by omega)
      · exact hff a
    split
    · trivial
    · rename_i v c hv
      rw [hv] at gp
      exact good_le (ih c (acc ++ [v]) (by rw [unders_app, hu]; simp [gp.1])) (by have := gp.2.1; omega) gp.2.2
theorem sel_good (g : Gds l) : ∀ d a, (selP l d a).good l a 1 := by
  intro d
  induction d with
  | zero => intro a; trivial
  | succ d ih =>
    intro a
    unfold selP
    split
    · rename_i h
      have := is_lt h
      exact good_le (parts_good (fun a => spreadP_good g ih) (fun a => fieldP_good g ih) l.length (a + 1) [] unders0) (by omega) (by omega)
    · trivial
/-! the parser's -/
theorem meta_eq (g : Gds l) (h : kindP l a t_name = true) {J : MH} : eqD (wdP l a) (.str t_meta) J = .ok (.bl (isP l a t_name t_meta)) J := by
  obtain ⟨x, hx, hxk, hxw⟩ := kind_at h
  obtain ⟨s, hs, _⟩ := (g.get hx).nm (by rw [hxk]; decide)
  have h1 : isP l a t_name t_meta = (s == t_meta) := by
    unfold isP
    rw [hx]
    simp [hxk, hs, eqv_str]
  rw [h1, hxw, hs]
  rfl
theorem field_tail (h : Pr I n l) {G0 G1 G2 : FF} {sel : Nat → PR} {d : Nat} (hs : ∀ a, (sel a).good l a 1) (hG : ∀ a, G1 [.loc n, nI d] (st I n (ds l) e a) = (sel a).r l I n e) {key nm : D} (hk : key.under 0 = true) (hm : nm.under 0 = true) (p : Nat) :
    endD (st I n (ds l) e b) (thenS (sb_Parser_field_4 G0 G1 G2 [some (.loc n), some (nI (d + 1)), some key, some nm, none, none, none] (st I n (ds l) e p)) (seqS (sb_Parser_field_5 G0 G1 G2) (seqS (sb_Parser_field_6 G0 G1 G2) (seqS (sb_Parser_field_7 G0 G1 G2) nxS)))) = (restF sel l key nm p).r l I n e := by
  have ha := fun a => args_ok (a := a) (e := e) h
  have hc := fun a => cond_ok (a := a) (e := e) h
  have gd := restF_good (a := p) h.hg hs hk hm
  unfold restF at gd ⊢
  have g1 := argsP_good (a := p) h.hg
  cases h1 : argsP l p with
  | inl b => simp -implicitDefEqProofs [sb_Parser_field_4, e_callM, callV_st h.hn, ha, h1, PR.r, doc, trim_00 h]
  | inr q =>
    obtain ⟨v1, c1⟩ := q
    rw [h1] at g1
    have g2 := condP_good (a := c1) h.hg
    dsimp only
    cases h2 : condP l c1 with
    | inl b => simp -implicitDefEqProofs [sb_Parser_field_4, sb_Parser_field_5, e_callM, callV_st h.hn, ha, h1, hc, h2, PR.r, doc, trim_00 h]
    | inr q =>
      obtain ⟨v2, c2⟩ := q
      rw [h2] at g2
      dsimp only
      by_cases b1 : isP l c2 t_sign [123] = true
      · rw [if_pos b1]
        have g3 := hs c2
        cases h3 : sel c2 with
        | inl b => simp -implicitDefEqProofs [sb_Parser_field_4, sb_Parser_field_5, sb_Parser_field_6, e_callM, callV_st h.hn, ha, h1, hc, h2, next_p h, b1, hG, h3, PR.r, doc, trim_00 h]
        | inr q =>
          obtain ⟨v3, c3⟩ := q
          rw [h3] at g3
          simp -implicitDefEqProofs [sb_Parser_field_4, sb_Parser_field_5, sb_Parser_field_6, sb_Parser_field_7, e_callM, callV_st h.hn, ha, h1, hc, h2, next_p h, b1, hG, h3, PR.r, fin_0 h, hk, hm, g1.1, g2.1, g3.1]
      · have b1' : isP l c2 t_sign [123] = false := by simpa using b1
        rw [if_neg b1]
        simp -implicitDefEqProofs [sb_Parser_field_4, sb_Parser_field_5, sb_Parser_field_6, sb_Parser_field_7, e_callM, callV_st h.hn, ha, h1, hc, h2, next_p h, b1', PR.r, fin_0 h, hk, hm, g1.1, g2.1]
theorem field_ok (h : Pr I n l) {G0 G1 G2 : FF} {sel : Nat → PR} {d : Nat} (hs : ∀ a, (sel a).good l a 1) (hG : ∀ a, G1 [.loc n, nI d] (st I n (ds l) e a) = (sel a).r l I n e) :
    runDef 7 (b_Parser_field G0 G1 G2) [.loc n, nI (d + 1)] (st I n (ds l) e a) = (fieldP sel l a).r l I n e := by
  have tl := fun key nm hk hm p => field_tail (G0 := G0) (G2 := G2) (b := a) h hs hG (key := key) (nm := nm) hk hm p
  rw [run_def]
  unfold b_Parser_field fieldP
  by_cases b1 : kindP l a t_name = true
  · rw [if_pos b1]
    by_cases b2 : isP l (a + 1) t_sign [58] = true
    · rw [if_pos b2]
      by_cases b3 : isP l a t_name t_meta = true
      · rw [if_pos b3]
        simp -implicitDefEqProofs [sb_Parser_field_1, sb_Parser_field_2, sb_Parser_field_3, e_callM, callV_st h.hn, take_p h, b1, next_p h, b2, meta_eq h.hg b1, b3, fail_p h, PR.r, doc, trim_00 h]
      · have b3' : isP l a t_name t_meta = false := by simpa using b3
        rw [if_neg b3]
        by_cases b4 : kindP l (a + 2) t_name = true
        · rw [if_pos b4]
          rw [← tl _ _ (wd_cl h.hg) (wd_cl h.hg) (a + 3)]
          simp -implicitDefEqProofs [sb_Parser_field_1, sb_Parser_field_2, sb_Parser_field_3, e_callM, callV_st h.hn, take_p h, b1, next_p h, b2, meta_eq h.hg b1, b3', skip_p h, b4]
        · have b4' : kindP l (a + 2) t_name = false := by simpa using b4
          rw [if_neg b4]
          simp -implicitDefEqProofs [sb_Parser_field_1, sb_Parser_field_2, sb_Parser_field_3, e_callM, callV_st h.hn, take_p h, b1, next_p h, b2, meta_eq h.hg b1, b3', skip_p h, b4', PR.r, doc, trim_00 h]
    · have b2' : isP l (a + 1) t_sign [58] = false := by simpa using b2
      rw [if_neg b2]
      rw [← tl _ _ (wd_cl h.hg) (wd_cl h.hg) (a + 1)]
      simp -implicitDefEqProofs [sb_Parser_field_1, sb_Parser_field_2, sb_Parser_field_3, e_callM, callV_st h.hn, take_p h, b1, next_p h, b2']
  · have b1' : kindP l a t_name = false := by simpa using b1
    rw [if_neg b1]
    simp -implicitDefEqProofs [sb_Parser_field_1, e_callM, callV_st h.hn, take_p h, b1', PR.r, doc, trim_00 h]
theorem spread_tail (h : Pr I n l) {G0 G1 G2 : FF} {sel : Nat → PR} {d : Nat} (hs : ∀ a, (sel a).good l a 1) (hG : ∀ a, G1 [.loc n, nI d] (st I n (ds l) e a) = (sel a).r l I n e) {nm : D} (hm : nm.under 0 = true) (p : Nat) :
    endD (st I n (ds l) e b) (thenS (sb_Parser_spread_3 G0 G1 G2 [some (.loc n), some (nI (d + 1)), some nm, none] (st I n (ds l) e p)) (seqS (sb_Parser_spread_4 G0 G1 G2) nxS)) = (restS sel l nm p).r l I n e := by
  have hc := fun a => cond_ok (a := a) (e := e) h
  unfold restS
  have g1 := condP_good (a := p) h.hg
  cases h1 : condP l p with
  | inl b => simp -implicitDefEqProofs [sb_Parser_spread_3, e_callM, callV_st h.hn, hc, h1, PR.r, doc, trim_00 h]
  | inr q =>
    obtain ⟨v1, c1⟩ := q
    rw [h1] at g1
    have g3 := hs c1
    dsimp only
    cases h3 : sel c1 with
    | inl b => simp -implicitDefEqProofs [sb_Parser_spread_3, sb_Parser_spread_4, e_callM, callV_st h.hn, hc, h1, hG, h3, PR.r, doc, trim_00 h]
    | inr q =>
      obtain ⟨v3, c3⟩ := q
      rw [h3] at g3
      simp -implicitDefEqProofs [sb_Parser_spread_3, sb_Parser_spread_4, e_callM, callV_st h.hn, hc, h1, hG, h3, PR.r, fin_0 h, hm, g1.1, g3.1]
theorem spread_ok (h : Pr I n l) {G0 G1 G2 : FF} {sel : Nat → PR} {d : Nat} (hs : ∀ a, (sel a).good l a 1) (hG : ∀ a, G1 [.loc n, nI d] (st I n (ds l) e a) = (sel a).r l I n e) :
    runDef 4 (b_Parser_spread G0 G1 G2) [.loc n, nI (d + 1)] (st I n (ds l) e a) = (spreadP sel l a).r l I n e := by
  have tl := fun nm hm p => spread_tail (G0 := G0) (G2 := G2) (b := a) h hs hG (nm := nm) hm p
  have hc := fun a => cond_ok (a := a) (e := e) h
  rw [run_def]
  unfold b_Parser_spread spreadP
  by_cases b1 : isP l a t_name t_on = true
  · rw [if_pos b1]
    by_cases b2 : plainB l (a + 1) = true
    · rw [if_pos b2, ← tl _ (wd_cl h.hg) (a + 2)]
      simp -implicitDefEqProofs [sb_Parser_spread_1, sb_Parser_spread_2, e_callM, callV_st h.hn, next_p h, b1, skip_p h, plain_p h, b2]
    · have b2' : plainB l (a + 1) = false := by simpa using b2
      rw [if_neg b2]
      simp -implicitDefEqProofs [sb_Parser_spread_1, sb_Parser_spread_2, e_callM, callV_st h.hn, next_p h, b1, skip_p h, plain_p h, b2', PR.r, doc, trim_00 h]
  · have b1' : isP l a t_name t_on = false := by simpa using b1
    rw [if_neg b1]
    by_cases b2 : kindP l a t_name = true
    · rw [if_pos b2]
      by_cases b3 : plainB l a = true
      · rw [if_pos b3]
        have g1 := condP_good (a := a + 1) h.hg
        cases h1 : condP l (a + 1) with
        | inl b => simp -implicitDefEqProofs [sb_Parser_spread_1, sb_Parser_spread_2, e_callM, callV_st h.hn, next_p h, b1', kind_p h, b2, plain_p h, b3, hc, h1, PR.r, doc, trim_00 h]
        | inr q =>
          obtain ⟨v1, c1⟩ := q
          rw [h1] at g1
          simp -implicitDefEqProofs [sb_Parser_spread_1, sb_Parser_spread_2, e_callM, callV_st h.hn, next_p h, b1', kind_p h, b2, plain_p h, b3, hc, h1, PR.r, fin_0 h, wd_cl h.hg, g1.1]
      · have b3' : plainB l a = false := by simpa using b3
        rw [if_neg b3]
        simp -implicitDefEqProofs [sb_Parser_spread_1, sb_Parser_spread_2, e_callM, callV_st h.hn, next_p h, b1', kind_p h, b2, plain_p h, b3', PR.r, doc, trim_00 h]
    · have b2' : kindP l a t_name = false := by simpa using b2
      rw [if_neg b2, ← tl _ (by simp) a]
      simp -implicitDefEqProofs [sb_Parser_spread_1, sb_Parser_spread_2, e_callM, callV_st h.hn, next_p h, b1', kind_p h, b2']
theorem parts_loop (h : Pr I n l) {G0 G1 G2 : FF} {fs ff : Nat → PR} {d : Nat} (hfs : ∀ a, (fs a).good l a 1) (hff : ∀ a, (ff a).good l a 1)
    (hGs : ∀ (J : MH) a, Pr J n l → G2 [.loc n, nI d] (st J n (ds l) e a) = (fs a).r l J n e) (hGf : ∀ (J : MH) a, Pr J n l → G0 [.loc n, nI d] (st J n (ds l) e a) = (ff a).r l J n e) : ∀ f a acc k, l.length - a < f → f ≤ k → acc.length + f ≤ 3000000 →
    match partsL fs ff l f a acc with
    | .inl b => ∃ c, (whileN (lt_Parser_selection_1 G0 G1 G2) (lb_Parser_selection_1 G0 G1 G2) k [some (.loc n), some (nI d), some (.loc I.length)] (st (I ++ [.lst acc]) n (ds l) e a)) = .err (doc (placeP l e b)) (st (I ++ [c]) n (ds l) e b)
    | .inr (v, c) => ∃ acc', v = .tup acc' ∧ (whileN (lt_Parser_selection_1 G0 G1 G2) (lb_Parser_selection_1 G0 G1 G2) k [some (.loc n), some (nI d), some (.loc I.length)] (st (I ++ [.lst acc]) n (ds l) e a)) = .nx [some (.loc n), some (nI d), some (.loc I.length)] (st (I ++ [.lst acc']) n (ds l) e c) := by
  intro f
  induction f with
  | zero => intro a acc k h1; omega
  | succ f ih =>
    intro a acc k h1 h2 h3
    obtain ⟨k, rfl⟩ : ∃ j, k = j + 1 := ⟨k - 1, by omega⟩
    have h' : Pr (I ++ [.lst acc]) n l := h.app
    have hc := fun a => st_cell (I := I) (e := e) (a := a) (c := .lst acc) (ws := ds l) h.hn
    have hcs := fun a => o_trucell (hc a)
    have hla := fun (a : Nat) => o_isLst (hc a)
    by_cases hs : (!acc.isEmpty && isP l a t_sign [125]) = true
    · have hs' := Bool.and_eq_true_iff.mp hs
      have e1 : acc.isEmpty = false := by simpa using hs'.1
      unfold partsL
      rw [if_pos hs]
      refine ⟨acc, rfl, ?_⟩
      refine while_no ?_
      simp -implicitDefEqProofs [lt_Parser_selection_1, e_callM, callV_st h'.hn, hcs, try_p h', e1, hs'.2]
    · have hn : (!acc.isEmpty && isP l a t_sign [125]) = false := by simpa using hs
      have ht : lt_Parser_selection_1 G0 G1 G2 [some (.loc n), some (nI d), some (.loc I.length)] (st (I ++ [.lst acc]) n (ds l) e a) = .ok true (st (I ++ [.lst acc]) n (ds l) e a) := by
        by_cases e1 : acc.isEmpty = true
        · simp -implicitDefEqProofs [lt_Parser_selection_1, hcs, e1]
        · have e1' : acc.isEmpty = false := by simpa using e1
          have e2 : isP l a t_sign [125] = false := by simpa [e1'] using hn
          simp -implicitDefEqProofs [lt_Parser_selection_1, e_callM, callV_st h'.hn, hcs, try_p h', e1', e2]
      unfold partsL
      rw [if_neg hs]
      by_cases b1 : isP l a t_sign t_dots = true
      · simp only [if_pos b1]
        have := is_lt b1
        have hG := fun a => hGs _ a h'
        have gv := hfs (a + 1)
        cases ho : fs (a + 1) with
        | inl b =>
          refine ⟨.lst acc, while_err ht ?_⟩
          simp -implicitDefEqProofs [lb_Parser_selection_1, e_callM, callV_st h'.hn, try_p h', b1, hla, hG, ho, PR.r, doc]
        | inr q =>
          obtain ⟨v, c⟩ := q
          rw [ho] at gv
          dsimp only
          rw [while_nx (ρ2 := [some (.loc n), some (nI d), some (.loc I.length)]) (I2 := st (I ++ [.lst (acc ++ [v])]) n (ds l) e c) ht ?_]
          · exact ih c _ k (by have := gv.2.1; omega) (by omega) (by rw [List.length_append]; simp; omega)
          · have hap := o_append (d := v) (hc c) (by omega)
            simp -implicitDefEqProofs [lb_Parser_selection_1, e_callM, callV_st h'.hn, try_p h', b1, hla, hG, ho, PR.r, hap, st_setc h.hn]
      · have b1' : isP l a t_sign t_dots = false := by simpa using b1
        simp only [if_neg b1]
        have hG := fun a => hGf _ a h'
        have gv := hff a
        cases ho : ff a with
        | inl b =>
          refine ⟨.lst acc, while_err ht ?_⟩
          simp -implicitDefEqProofs [lb_Parser_selection_1, e_callM, callV_st h'.hn, try_p h', b1', hla, hG, ho, PR.r, doc]
        | inr q =>
          obtain ⟨v, c⟩ := q
          rw [ho] at gv
          dsimp only
          rw [while_nx (ρ2 := [some (.loc n), some (nI d), some (.loc I.length)]) (I2 := st (I ++ [.lst (acc ++ [v])]) n (ds l) e c) ht ?_]
          · exact ih c _ k (by have := gv.2.1; have := gv.2.2; omega) (by omega) (by rw [List.length_append]; simp; omega)
          · have hap := o_append (d := v) (hc c) (by omega)
            simp -implicitDefEqProofs [lb_Parser_selection_1, e_callM, callV_st h'.hn, try_p h', b1', hla, hG, ho, PR.r, hap, st_setc h.hn]
theorem selection_ok : ∀ d f (I : MH) (a : Nat), 2 * d < f → Pr I n l → W_Parser_field f 1 [.loc n, nI d] (st I n (ds l) e a) = (selP l d a).r l I n e := by
  intro d
  induction d with
  | zero =>
    intro f I a hf h
    obtain ⟨f, rfl⟩ : ∃ k, f = k + 1 := ⟨f - 1, by omega⟩
    show runDef 3 (b_Parser_selection (W_Parser_field f 0) (W_Parser_field f 1) (W_Parser_field f 2)) _ _ = _
    rw [run_def]
    unfold b_Parser_selection selP
    by_cases b1 : isP l a t_sign [123] = true
    · simp -implicitDefEqProofs [e_callM, callV_st h.hn, next_p h, b1, fail_p h, PR.r, doc, trim_00 h]
    · have b1' : isP l a t_sign [123] = false := by simpa using b1
      simp -implicitDefEqProofs [e_callM, callV_st h.hn, next_p h, b1', skip_p h, PR.r, doc, trim_00 h]
  | succ d ih =>
    intro f I a hf h
    obtain ⟨f, rfl⟩ : ∃ k, f = k + 2 := ⟨f - 2, by omega⟩
    show runDef 3 (b_Parser_selection (W_Parser_field (f + 1) 0) (W_Parser_field (f + 1) 1) (W_Parser_field (f + 1) 2)) _ _ = _
    rw [run_def]
    unfold b_Parser_selection selP
    by_cases b1 : isP l a t_sign [123] = true
    · rw [if_pos b1]
      have := is_lt b1
      have hl := h.hl
      have gs := sel_good h.hg d
      have gd := parts_good (l := l) (fun a => spreadP_good h.hg gs (a := a)) (fun a => fieldP_good h.hg gs (a := a)) l.length (a + 1) [] unders0
      have lp := parts_loop (e := e) (G0 := W_Parser_field (f + 1) 0) (G1 := W_Parser_field (f + 1) 1) (G2 := W_Parser_field (f + 1) 2) (d := d + 1) h (fun a => spreadP_good h.hg gs (a := a)) (fun a => fieldP_good h.hg gs (a := a))
        (fun J a hJ => spread_ok (G0 := W_Parser_field f 0) (G2 := W_Parser_field f 2) hJ gs fun a => ih f J a (by omega) hJ) (fun J a hJ => field_ok (G0 := W_Parser_field f 0) (G2 := W_Parser_field f 2) hJ gs fun a => ih f J a (by omega) hJ)
        l.length (a + 1) [] whileFuel (by omega) (by unfold whileFuel; omega) (by simp; omega)
      cases ho : partsL (spreadP (selP l d) l) (fieldP (selP l d) l) l l.length (a + 1) [] with
      | inl b =>
        rw [ho] at lp
        obtain ⟨c, hc⟩ := lp
        simp -implicitDefEqProofs [e_callM, callV_st h.hn, next_p h, b1, skip_p h, st_app h.hn, whileS, hc, PR.r, doc, trim_in h]
      | inr q =>
        obtain ⟨v, p⟩ := q
        rw [ho] at lp gd
        obtain ⟨acc, rfl, hc⟩ := lp
        have htc := o_tuplecell (st_cell (I := I) (e := e) (a := p) (c := .lst acc) (ws := ds l) h.hn)
        simp -implicitDefEqProofs [e_callM, callV_st h.hn, next_p h, b1, skip_p h, st_app h.hn, whileS, hc, PR.r, htc, fin_in h gd.1]
    · have b1' : isP l a t_sign [123] = false := by simpa using b1
      rw [if_neg b1]
      simp -implicitDefEqProofs [e_callM, callV_st h.hn, next_p h, b1', skip_p h, PR.r, doc, trim_00 h]
end
end K07
/-! K07G: selections, the law's reading -/
namespace K07
open PySem PySem.Spec L2 MP
section
variable {I J : MH} {n e a b c : Nat} {l : List Wd} {ρ : En}
theorem bo : ¬ t_ok = t_bad := by decide
theorem lfield_tail (g : Gds l) (hl : l.length ≤ 1000000) {G0 G1 G2 : FF} {sel : Nat → PR} (hG : ∀ a J, G1 [.lst (ds l), nI a, nI (c + 1)] J = .ok (sel a).t J) {key nm : D} (p : Nat) :
    endD J (thenS (sb_l_field_at_6 G0 G1 G2 [some (.lst (ds l)), some (nI p), some (nI c), some key, some nm, none, none, none] J) (seqS (sb_l_field_at_7 G0 G1 G2) (seqS (sb_l_field_at_8 G0 G1 G2) (seqS (sb_l_field_at_9 G0 G1 G2) (seqS (sb_l_field_at_10 G0 G1 G2) (seqS (sb_l_field_at_11 G0 G1 G2) (seqS (sb_l_field_at_12 G0 G1 G2) nxS))))))) = .ok (restF sel l key nm p).t J := by
  have ha := fun a J => l_args_ok (a := a) (J := J) g hl
  have hc := fun a J => l_cond_ok (a := a) (J := J) g hl
  unfold restF
  cases h1 : argsP l p with
  | inl b => simp -implicitDefEqProofs [sb_l_field_at_6, sb_l_field_at_7, ha, h1, PR.t]
  | inr q =>
    obtain ⟨v1, c1⟩ := q
    dsimp only
    cases h2 : condP l c1 with
    | inl b => simp -implicitDefEqProofs [sb_l_field_at_6, sb_l_field_at_7, sb_l_field_at_8, sb_l_field_at_9, ha, h1, bo, hc, h2, PR.t]
    | inr q =>
      obtain ⟨v2, c2⟩ := q
      dsimp only
      by_cases b1 : isP l c2 t_sign [123] = true
      · rw [if_pos b1]
        cases h3 : sel c2 with
        | inl b => simp -implicitDefEqProofs [sb_l_field_at_6, sb_l_field_at_7, sb_l_field_at_8, sb_l_field_at_9, sb_l_field_at_10, sb_l_field_at_11, ha, h1, bo, hc, h2, is_l g, b1, hG, h3, PR.t]
        | inr q =>
          obtain ⟨v3, c3⟩ := q
          simp -implicitDefEqProofs [sb_l_field_at_6, sb_l_field_at_7, sb_l_field_at_8, sb_l_field_at_9, sb_l_field_at_10, sb_l_field_at_11, sb_l_field_at_12, ha, h1, bo, hc, h2, is_l g, b1, hG, h3, PR.t]
      · have b1' : isP l c2 t_sign [123] = false := by simpa using b1
        rw [if_neg b1]
        simp -implicitDefEqProofs [sb_l_field_at_6, sb_l_field_at_7, sb_l_field_at_8, sb_l_field_at_9, sb_l_field_at_10, sb_l_field_at_11, sb_l_field_at_12, ha, h1, bo, hc, h2, is_l g, b1', PR.t]
theorem lfield_ok (g : Gds l) (hl : l.length ≤ 1000000) {G0 G1 G2 : FF} {sel : Nat → PR} (hG : ∀ a J, G1 [.lst (ds l), nI a, nI (c + 1)] J = .ok (sel a).t J) :
    runDef 8 (b_l_field_at G0 G1 G2) [.lst (ds l), nI a, nI c] J = .ok (fieldP sel l a).t J := by
  have tl := fun key nm p => lfield_tail (G0 := G0) (G2 := G2) (J := J) g hl hG (key := key) (nm := nm) p
  rw [run_def]
  unfold b_l_field_at fieldP
  by_cases b1 : kindP l a t_name = true
  · rw [if_pos b1]
    obtain ⟨x, hx, hxw⟩ := wd_l b1
    by_cases b2 : isP l (a + 1) t_sign [58] = true
    · rw [if_pos b2]
      by_cases b3 : isP l a t_name t_meta = true
      · rw [if_pos b3]
        simp -implicitDefEqProofs [sb_l_field_at_1, sb_l_field_at_2, sb_l_field_at_3, sb_l_field_at_4, sb_l_field_at_5, l_kind_ok, b1, ds_ix hx, wd_dd, wd2, hxw, is_l g, b2, meta_eq g b1, b3, PR.t]
      · have b3' : isP l a t_name t_meta = false := by simpa using b3
        rw [if_neg b3]
        by_cases b4 : kindP l (a + 2) t_name = true
        · rw [if_pos b4]
          obtain ⟨y, hy, hyw⟩ := wd_l b4
          rw [← tl]
          simp -implicitDefEqProofs [sb_l_field_at_1, sb_l_field_at_2, sb_l_field_at_3, sb_l_field_at_4, sb_l_field_at_5, l_kind_ok, b1, ds_ix hx, wd_dd, wd2, hxw, is_l g, b2, meta_eq g b1, b3', b4, ds_ix hy, hyw]
        · have b4' : kindP l (a + 2) t_name = false := by simpa using b4
          rw [if_neg b4]
          simp -implicitDefEqProofs [sb_l_field_at_1, sb_l_field_at_2, sb_l_field_at_3, sb_l_field_at_4, sb_l_field_at_5, l_kind_ok, b1, ds_ix hx, wd_dd, wd2, hxw, is_l g, b2, meta_eq g b1, b3', b4', PR.t]
    · have b2' : isP l (a + 1) t_sign [58] = false := by simpa using b2
      rw [if_neg b2]
      rw [← tl]
      simp -implicitDefEqProofs [sb_l_field_at_1, sb_l_field_at_2, sb_l_field_at_3, sb_l_field_at_4, sb_l_field_at_5, l_kind_ok, b1, ds_ix hx, wd_dd, wd2, hxw, is_l g, b2']
  · have b1' : kindP l a t_name = false := by simpa using b1
    rw [if_neg b1]
    simp -implicitDefEqProofs [sb_l_field_at_1, l_kind_ok, b1', PR.t]
theorem lspread_tail (g : Gds l) (hl : l.length ≤ 1000000) {G0 G1 G2 : FF} {sel : Nat → PR} (hG : ∀ a J, G1 [.lst (ds l), nI a, nI (c + 1)] J = .ok (sel a).t J) {nm : D} (p : Nat) :
    endD J (thenS (sb_l_spread_at_3 G0 G1 G2 [some (.lst (ds l)), some (nI p), some (nI c), some nm, none, none] J) (seqS (sb_l_spread_at_4 G0 G1 G2) (seqS (sb_l_spread_at_5 G0 G1 G2) (seqS (sb_l_spread_at_6 G0 G1 G2) (seqS (sb_l_spread_at_7 G0 G1 G2) nxS))))) = .ok (restS sel l nm p).t J := by
  have hc := fun a J => l_cond_ok (a := a) (J := J) g hl
  unfold restS
  cases h1 : condP l p with
  | inl b => simp -implicitDefEqProofs [sb_l_spread_at_3, sb_l_spread_at_4, hc, h1, PR.t]
  | inr q =>
    obtain ⟨v1, c1⟩ := q
    dsimp only
    cases h3 : sel c1 with
    | inl b => simp -implicitDefEqProofs [sb_l_spread_at_3, sb_l_spread_at_4, sb_l_spread_at_5, sb_l_spread_at_6, hc, h1, bo, hG, h3, PR.t]
    | inr q =>
      obtain ⟨v3, c3⟩ := q
      simp -implicitDefEqProofs [sb_l_spread_at_3, sb_l_spread_at_4, sb_l_spread_at_5, sb_l_spread_at_6, sb_l_spread_at_7, hc, h1, bo, hG, h3, PR.t]
theorem lspread_ok (g : Gds l) (hl : l.length ≤ 1000000) {G0 G1 G2 : FF} {sel : Nat → PR} (hG : ∀ a J, G1 [.lst (ds l), nI a, nI (c + 1)] J = .ok (sel a).t J) :
    runDef 6 (b_l_spread_at G0 G1 G2) [.lst (ds l), nI a, nI c] J = .ok (spreadP sel l a).t J := by
  have tl := fun nm p => lspread_tail (G0 := G0) (G2 := G2) (J := J) g hl hG (nm := nm) p
  have hc := fun a J => l_cond_ok (a := a) (J := J) g hl
  rw [run_def]
  unfold b_l_spread_at spreadP
  by_cases b1 : isP l a t_name t_on = true
  · rw [if_pos b1]
    by_cases b2 : plainB l (a + 1) = true
    · obtain ⟨y, hy, hyw⟩ := wd_l (plain_lt b2)
      rw [if_pos b2, ← tl]
      simp -implicitDefEqProofs [sb_l_spread_at_1, sb_l_spread_at_2, is_l g, b1, plain_l g, b2, ds_ix hy, wd_dd, wd2, hyw]
    · have b2' : plainB l (a + 1) = false := by simpa using b2
      rw [if_neg b2]
      simp -implicitDefEqProofs [sb_l_spread_at_1, sb_l_spread_at_2, is_l g, b1, plain_l g, b2', PR.t]
  · have b1' : isP l a t_name t_on = false := by simpa using b1
    rw [if_neg b1]
    by_cases b2 : kindP l a t_name = true
    · rw [if_pos b2]
      obtain ⟨x, hx, hxw⟩ := wd_l b2
      by_cases b3 : plainB l a = true
      · rw [if_pos b3]
        cases h1 : condP l (a + 1) with
        | inl b => simp -implicitDefEqProofs [sb_l_spread_at_1, sb_l_spread_at_2, is_l g, b1', l_kind_ok, b2, plain_l g, b3, hc, h1, PR.t]
        | inr q =>
          obtain ⟨v1, c1⟩ := q
          simp -implicitDefEqProofs [sb_l_spread_at_1, sb_l_spread_at_2, is_l g, b1', l_kind_ok, b2, plain_l g, b3, hc, h1, bo, ds_ix hx, wd_dd, wd2, hxw, PR.t]
      · have b3' : plainB l a = false := by simpa using b3
        rw [if_neg b3]
        simp -implicitDefEqProofs [sb_l_spread_at_1, sb_l_spread_at_2, is_l g, b1', l_kind_ok, b2, plain_l g, b3', PR.t]
    · have b2' : kindP l a t_name = false := by simpa using b2
      rw [if_neg b2, ← tl]
      simp -implicitDefEqProofs [sb_l_spread_at_1, sb_l_spread_at_2, is_l g, b1', l_kind_ok, b2']
theorem lparts_loop (g : Gds l) (hl : l.length ≤ 1000000) (L : List D) {G0 G1 G2 : FF} {fs ff : Nat → PR} (hGs : ∀ a J, G2 [.lst (ds l), nI a, nI c] J = .ok (fs a).t J) (hGf : ∀ a J, G0 [.lst (ds l), nI a, nI c] J = .ok (ff a).t J) : ∀ f j a acc x4 x5, j + f = l.length → acc.length + f ≤ 3000000 →
    ∃ k, thenS (forL ⟨L, none⟩ (nameT 4) (lb_l_selection_at_1 G0 G1 G2) (upTo j l.length) [some (.lst (ds l)), some (nI a), some (nI c), some (.loc J.length), x4, x5] (J ++ [.lst acc])) (seqS (retS (tupE [(cV (.str t_bad)), (getV 1)])) nxS) = .ret (partsL fs ff l f a acc).t (J ++ [k]) := by
  intro f
  induction f with
  | zero =>
    intro j a acc x4 x5 h1 h2
    rw [upTo_nil (by omega)]
    exact ⟨.lst acc, by simp -implicitDefEqProofs [for_nil, partsL, PR.t]⟩
  | succ f ih =>
    intro j a acc x4 x5 h1 h2
    rw [upTo_cons (by omega)]
    have hc := new_get (I := J) (c := .lst acc)
    have hcs := o_trucell hc
    have hla := o_isLst hc
    have htc := o_tuplecell hc
    have hnm : nameT 4 (nI j) [some (.lst (ds l)), some (nI a), some (nI c), some (.loc J.length), x4, x5] (J ++ [.lst acc]) = .nx [some (.lst (ds l)), some (nI a), some (nI c), some (.loc J.length), some (nI j), x5] (J ++ [.lst acc]) := rfl
    by_cases hs : (!acc.isEmpty && isP l a t_sign [125]) = true
    · have hs' := Bool.and_eq_true_iff.mp hs
      have e1 : acc.isEmpty = false := by simpa using hs'.1
      unfold partsL
      rw [if_pos hs, for_ret hnm (d := .tup [.str t_ok, .tup acc, nI (a + 1)]) (I2 := J ++ [.lst acc])]
      · exact ⟨.lst acc, rfl⟩
      · simp -implicitDefEqProofs [lb_l_selection_at_1, hcs, e1, is_l g, hs'.2, htc]
    · have hn : (!acc.isEmpty && isP l a t_sign [125]) = false := by simpa using hs
      have ht : andT (truE (getV 3)) (truE (callE 4 F_l_is [(getV 0), (getV 1), (cV (.str t_sign)), (cV (.str [125]))])) [some (.lst (ds l)), some (nI a), some (nI c), some (.loc J.length), some (nI j), x5] (J ++ [.lst acc]) = .ok false (J ++ [.lst acc]) := by
        by_cases e1 : acc.isEmpty = true
        · simp -implicitDefEqProofs [hcs, e1]
        · have e1' : acc.isEmpty = false := by simpa using e1
          have e2 : isP l a t_sign [125] = false := by simpa [e1'] using hn
          simp -implicitDefEqProofs [hcs, e1', is_l g, e2]
      unfold partsL
      rw [if_neg hs]
      by_cases b1 : isP l a t_sign t_dots = true
      · simp only [if_pos b1]
        cases ho : fs (a + 1) with
        | inl b =>
          refine ⟨.lst acc, ?_⟩
          rw [for_ret hnm (d := .tup [.str t_bad, nI b]) (I2 := J ++ [.lst acc])]
          · rfl
          · simp -implicitDefEqProofs [lb_l_selection_at_1, -e_andT, ht, is_l g, b1, hGs, ho, PR.t]
        | inr q =>
          obtain ⟨v, p⟩ := q
          have hap := o_append (d := v) hc (by omega)
          dsimp only
          rw [for_nx hnm (ρ2 := [some (.lst (ds l)), some (nI p), some (nI c), some (.loc J.length), some (nI j), some (.tup [.str t_ok, v, nI p])]) (I2 := J ++ [.lst (acc ++ [v])])]
          · exact ih (j + 1) p (acc ++ [v]) (some (nI j)) (some (.tup [.str t_ok, v, nI p])) (by omega) (by rw [List.length_append]; simp; omega)
          · simp -implicitDefEqProofs [lb_l_selection_at_1, -e_andT, ht, is_l g, b1, hGs, ho, PR.t, bo, hla, hap]
      · have b1' : isP l a t_sign t_dots = false := by simpa using b1
        simp only [if_neg b1]
        cases ho : ff a with
        | inl b =>
          refine ⟨.lst acc, ?_⟩
          rw [for_ret hnm (d := .tup [.str t_bad, nI b]) (I2 := J ++ [.lst acc])]
          · rfl
          · simp -implicitDefEqProofs [lb_l_selection_at_1, -e_andT, ht, is_l g, b1', hGf, ho, PR.t]
        | inr q =>
          obtain ⟨v, p⟩ := q
          have hap := o_append (d := v) hc (by omega)
          dsimp only
          rw [for_nx hnm (ρ2 := [some (.lst (ds l)), some (nI p), some (nI c), some (.loc J.length), some (nI j), some (.tup [.str t_ok, v, nI p])]) (I2 := J ++ [.lst (acc ++ [v])])]
          · exact ih (j + 1) p (acc ++ [v]) (some (nI j)) (some (.tup [.str t_ok, v, nI p])) (by omega) (by rw [List.length_append]; simp; omega)
          · simp -implicitDefEqProofs [lb_l_selection_at_1, -e_andT, ht, is_l g, b1', hGf, ho, PR.t, bo, hla, hap]
theorem l_selection_ok (g : Gds l) (hl : l.length ≤ 1000000) : ∀ d c f a J, c + d = 11 → 2 * d < f → W_l_field_at f 1 [.lst (ds l), nI a, nI c] J = .ok (selP l d a).t J := by
  have hl' : l.length ≤ 16777216 := by omega
  intro d
  induction d with
  | zero =>
    intro c f a J hcd hf
    obtain ⟨f, rfl⟩ : ∃ k, f = k + 1 := ⟨f - 1, by omega⟩
    obtain rfl : c = 11 := by omega
    show runDef 6 (b_l_selection_at (W_l_field_at f 0) (W_l_field_at f 1) (W_l_field_at f 2)) _ _ = _
    rw [run_def]
    unfold b_l_selection_at selP
    by_cases b1 : isP l a t_sign [123] = true
    · simp -implicitDefEqProofs [is_l g, b1, PR.t]
    · have b1' : isP l a t_sign [123] = false := by simpa using b1
      simp -implicitDefEqProofs [is_l g, b1', PR.t]
  | succ d ih =>
    intro c f a J hcd hf
    obtain ⟨f, rfl⟩ : ∃ k, f = k + 2 := ⟨f - 2, by omega⟩
    show runDef 6 (b_l_selection_at (W_l_field_at (f + 1) 0) (W_l_field_at (f + 1) 1) (W_l_field_at (f + 1) 2)) _ _ = _
    rw [run_def]
    unfold b_l_selection_at selP
    have c10 : ¬ 10 < c := by omega
    by_cases b1 : isP l a t_sign [123] = true
    · rw [if_pos b1]
      have gs := sel_good g d
      have gd := parts_good (l := l) (fun a => spreadP_good g gs (a := a)) (fun a => fieldP_good g gs (a := a)) l.length (a + 1) [] unders0
      obtain ⟨k, hk⟩ := lparts_loop (J := J) g hl (upTo 0 l.length) (G0 := W_l_field_at (f + 1) 0) (G1 := W_l_field_at (f + 1) 1) (G2 := W_l_field_at (f + 1) 2) (c := c)
        (fun a J => lspread_ok (G0 := W_l_field_at f 0) (G2 := W_l_field_at f 2) g hl fun a J => ih (c + 1) f a J (by omega) (by omega)) (fun a J => lfield_ok (G0 := W_l_field_at f 0) (G2 := W_l_field_at f 2) g hl fun a J => ih (c + 1) f a J (by omega) (by omega))
        l.length 0 (a + 1) [] none none (by omega) (by simp; omega)
      simp -implicitDefEqProofs [is_l g, b1, c10, ds_len, hl', hk, pr_finJ gd]
    · have b1' : isP l a t_sign [123] = false := by simpa using b1
      rw [if_neg b1]
      simp -implicitDefEqProofs [is_l g, b1', PR.t]
end
end K07
/-! K07H: fragments, documents -/
namespace K07
open PySem PySem.Spec L2 MP
section
variable {I J : MH} {n e a b c : Nat} {l : List Wd} {ρ : En}
def fragP (l : List Wd) (a : Nat) : PR := if isP l a t_name t_fragment then (if plainB l (a + 1) && !isP l (a + 1) t_name t_on then (if isP l (a + 2) t_name t_on then (if plainB l (a + 3) then (match selP l 10 (a + 4) with
    | .inl b => .inl b
    | .inr (v, c) => .inr (.tup [wdP l (a + 1), wdP l (a + 3), v], c)) else .inl (a + 3)) else .inl (a + 2)) else .inl (a + 1)) else .inl a
theorem frag_good (g : Gds l) : (fragP l a).good l a 1 := by
  unfold fragP
  split
  · split
    · split
      · split
        · rename_i h1 h2 h3 h4
          have := kind_lt (plain_lt h4)
          have gs := sel_good g 10 (a + 4)
          split
          · trivial
          · rename_i v c hv
            rw [hv] at gs
            exact ⟨by simp [wd_cl g, gs.1], by have := gs.2.1; omega, by have := gs.2.2; omega⟩
        · trivial
      · trivial
    · trivial
  · trivial
theorem on_eq (g : Gds l) (h : kindP l a t_name = true) {J : MH} : eqD (wdP l a) (.str t_on) J = .ok (.bl (isP l a t_name t_on)) J := by
  obtain ⟨x, hx, hxk, hxw⟩ := kind_at h
  obtain ⟨s, hs, _⟩ := (g.get hx).nm (by rw [hxk]; decide)
  have h1 : isP l a t_name t_on = (s == t_on) := by
    unfold isP
    rw [hx]
    simp [hxk, hs, eqv_str]
  rw [h1, hxw, hs]
  rfl
theorem frag_ok (h : Pr I n l) : F_Parser_fragment [.loc n] (st I n (ds l) e a) = (fragP l a).r l I n e := by
  have hsel : ∀ a, W_Parser_field 60 1 [.loc n, .int 10] (st I n (ds l) e a) = (selP l 10 a).r l I n e := fun a => selection_ok 10 60 I a (by omega) h
  have gs := sel_good h.hg 10 (a + 4)
  unfold F_Parser_fragment b_Parser_fragment fragP
  rw [run_def]
  by_cases b0 : isP l a t_name t_fragment = true
  · rw [if_pos b0]
    by_cases b1 : isP l (a + 1) t_name t_on = true
    · rw [if_neg (by simp [b1])]
      simp -implicitDefEqProofs [e_callM, callV_st h.hn, skip_p h, b0, next_p h, b1, fail_p h, PR.r, doc, trim_00 h]
    · have b1' : isP l (a + 1) t_name t_on = false := by simpa using b1
      by_cases b2 : plainB l (a + 1) = true
      · rw [if_pos (by simp [b1', b2])]
        by_cases b3 : isP l (a + 2) t_name t_on = true
        · rw [if_pos b3]
          by_cases b4 : plainB l (a + 3) = true
          · rw [if_pos b4]
            cases ho : selP l 10 (a + 4) with
            | inl b => simp -implicitDefEqProofs [e_callM, callV_st h.hn, skip_p h, b0, next_p h, b1', plain_p h, b2, b3, b4, hsel, ho, PR.r, doc, trim_00 h]
            | inr q =>
              obtain ⟨v, c⟩ := q
              rw [ho] at gs
              simp -implicitDefEqProofs [e_callM, callV_st h.hn, skip_p h, b0, next_p h, b1', plain_p h, b2, b3, b4, hsel, ho, PR.r, fin_0 h, wd_cl h.hg, gs.1]
          · have b4' : plainB l (a + 3) = false := by simpa using b4
            rw [if_neg b4]
            simp -implicitDefEqProofs [e_callM, callV_st h.hn, skip_p h, b0, next_p h, b1', plain_p h, b2, b3, b4', PR.r, doc, trim_00 h]
        · have b3' : isP l (a + 2) t_name t_on = false := by simpa using b3
          rw [if_neg b3]
          simp -implicitDefEqProofs [e_callM, callV_st h.hn, skip_p h, b0, next_p h, b1', plain_p h, b2, b3', PR.r, doc, trim_00 h]
      · have b2' : plainB l (a + 1) = false := by simpa using b2
        rw [if_neg (by simp [b2'])]
        simp -implicitDefEqProofs [e_callM, callV_st h.hn, skip_p h, b0, next_p h, b1', plain_p h, b2', PR.r, doc, trim_00 h]
  · have b0' : isP l a t_name t_fragment = false := by simpa using b0
    rw [if_neg b0]
    simp -implicitDefEqProofs [e_callM, callV_st h.hn, skip_p h, b0', PR.r, doc, trim_00 h]
theorem l_frag_ok (g : Gds l) (hl : l.length ≤ 1000000) {k : Nat} (hk : (k == 10) = false) : F_l_fragment_at [.lst (ds l), nI a, nI k] J = .ok (fragP l a).t J := by
  have hsel : ∀ a J, W_l_field_at 60 1 [.lst (ds l), nI a, .int 1] J = .ok (selP l 10 a).t J := fun a J => l_selection_ok g hl 10 1 60 a J rfl (by omega)
  unfold F_l_fragment_at b_l_fragment_at fragP
  rw [run_def]
  by_cases b0 : isP l a t_name t_fragment = true
  · rw [if_pos b0]
    by_cases b2 : plainB l (a + 1) = true
    · obtain ⟨x, hx, hxw⟩ := wd_l (plain_lt b2)
      have hq := fun J => on_eq (J := J) g (plain_lt b2)
      by_cases b1 : isP l (a + 1) t_name t_on = true
      · rw [if_neg (by simp [b1])]
        simp -implicitDefEqProofs [is_l g, b0, hk, plain_l g, b2, ds_ix hx, wd_dd, wd2, hxw, hq, b1, PR.t]
      · have b1' : isP l (a + 1) t_name t_on = false := by simpa using b1
        rw [if_pos (by simp [b1', b2])]
        by_cases b3 : isP l (a + 2) t_name t_on = true
        · rw [if_pos b3]
          by_cases b4 : plainB l (a + 3) = true
          · rw [if_pos b4]
            obtain ⟨y, hy, hyw⟩ := wd_l (plain_lt b4)
            cases ho : selP l 10 (a + 4) with
            | inl b => simp -implicitDefEqProofs [is_l g, b0, hk, plain_l g, b2, ds_ix hx, wd_dd, wd2, hxw, hq, b1', b3, b4, hsel, ho, PR.t]
            | inr q =>
              obtain ⟨v, c⟩ := q
              simp -implicitDefEqProofs [is_l g, b0, hk, plain_l g, b2, ds_ix hx, wd_dd, wd2, hxw, hq, b1', b3, b4, hsel, ho, bo, ds_ix hy, hyw, PR.t]
          · have b4' : plainB l (a + 3) = false := by simpa using b4
            rw [if_neg b4]
            simp -implicitDefEqProofs [is_l g, b0, hk, plain_l g, b2, ds_ix hx, wd_dd, wd2, hxw, hq, b1', b3, b4', PR.t]
        · have b3' : isP l (a + 2) t_name t_on = false := by simpa using b3
          rw [if_neg b3]
          simp -implicitDefEqProofs [is_l g, b0, hk, plain_l g, b2, ds_ix hx, wd_dd, wd2, hxw, hq, b1', b3', PR.t]
    · have b2' : plainB l (a + 1) = false := by simpa using b2
      rw [if_neg (by simp [b2'])]
      simp -implicitDefEqProofs [is_l g, b0, hk, plain_l g, b2', PR.t]
  · have b0' : isP l a t_name t_fragment = false := by simpa using b0
    rw [if_neg b0]
    simp -implicitDefEqProofs [is_l g, b0', PR.t]
theorem l_frag_10 (g : Gds l) : F_l_fragment_at [.lst (ds l), nI a, nI 10] J = .ok (.tup [.str t_bad, nI a]) J := by
  unfold F_l_fragment_at b_l_fragment_at
  rw [run_def]
  by_cases b0 : isP l a t_name t_fragment = true
  · simp -implicitDefEqProofs [is_l g, b0]
  · have b0' : isP l a t_name t_fragment = false := by simpa using b0
    simp -implicitDefEqProofs [is_l g, b0']
def docL (l : List Wd) : Nat → Nat → List D → PR
  | 0, a, acc => .inr (.tup acc, a)
  | f + 1, a, acc => if a < l.length then (if acc.length = 10 then .inl a else match fragP l a with
      | .inl b => .inl b
      | .inr (v, c) => docL l f c (acc ++ [v])) else .inr (.tup acc, a)
theorem docL_done (h : l.length ≤ a) {acc : List D} : ∀ f, docL l f a acc = .inr (.tup acc, a)
  | 0 => rfl
  | f + 1 => by unfold docL; rw [if_neg (by omega)]
theorem docL_good (g : Gds l) : ∀ f a acc, unders 0 acc = true → (docL l f a acc).good l a 0 := by
  intro f
  induction f with
  | zero => intro a acc hu; exact ⟨by simp [hu], by omega, by omega⟩
  | succ f ih =>
    intro a acc hu
    unfold docL
    split
    · split
      · trivial
      · have gf := frag_good (a := a) g
        split
        · trivial
        · rename_i v c hv
          rw [hv] at gf
          exact good_le (ih c (acc ++ [v]) (by rw [unders_app, hu]; simp [gf.1])) (by have := gf.2.1; omega) gf.2.2
    · exact ⟨by simp [hu], by omega, by omega⟩
theorem doc_loop (h : Pr I n l) (v1 v2 : D) : ∀ f a acc k, l.length - a < f → f ≤ k → acc.length + f ≤ 3000000 →
    match docL l f a acc with
    | .inl b => ∃ c, (whileN lt_Parser_document_1 lb_Parser_document_1 k [some (.loc n), some v1, some v2, some (.loc I.length)] (st (I ++ [.lst acc]) n (ds l) e a)) = .err (doc (placeP l e b)) (st (I ++ [c]) n (ds l) e b)
    | .inr (v, c) => ∃ acc', v = .tup acc' ∧ (whileN lt_Parser_document_1 lb_Parser_document_1 k [some (.loc n), some v1, some v2, some (.loc I.length)] (st (I ++ [.lst acc]) n (ds l) e a)) = .nx [some (.loc n), some v1, some v2, some (.loc I.length)] (st (I ++ [.lst acc']) n (ds l) e c) := by
  intro f
  induction f with
  | zero => intro a acc k h1; omega
  | succ f ih =>
    intro a acc k h1 h2 h3
    obtain ⟨k, rfl⟩ : ∃ j, k = j + 1 := ⟨k - 1, by omega⟩
    have h' : Pr (I ++ [.lst acc]) n l := h.app
    have hc := fun a => st_cell (I := I) (e := e) (a := a) (c := .lst acc) (ws := ds l) h.hn
    have hlc := fun a => o_lencell (hc a)
    have hla := fun (a : Nat) => o_isLst (hc a)
    unfold docL
    by_cases b0 : a < l.length
    · rw [if_pos b0]
      have ht : lt_Parser_document_1 [some (.loc n), some v1, some v2, some (.loc I.length)] (st (I ++ [.lst acc]) n (ds l) e a) = .ok true (st (I ++ [.lst acc]) n (ds l) e a) := by
        simp -implicitDefEqProofs [lt_Parser_document_1, e_attr, at_at h'.hn, at_words h'.hn, ds_len, b0]
      by_cases b1 : acc.length = 10
      · rw [if_pos b1]
        by_cases b2 : isP l a t_name t_fragment = true
        · refine ⟨.lst acc, while_err ht ?_⟩
          simp -implicitDefEqProofs [lb_Parser_document_1, e_callM, callV_st h'.hn, next_p h', b2, hlc, b1, fail_p h']
        · have b2' : isP l a t_name t_fragment = false := by simpa using b2
          have hf : F_Parser_fragment [.loc n] (st (I ++ [.lst acc]) n (ds l) e a) = .err (doc (placeP l e a)) (st (I ++ [.lst acc]) n (ds l) e a) := by
            rw [frag_ok h']
            unfold fragP
            rw [if_neg b2]
            rfl
          refine ⟨.lst acc, while_err ht ?_⟩
          simp -implicitDefEqProofs [lb_Parser_document_1, e_callM, callV_st h'.hn, next_p h', b2', hla, hf]
      · rw [if_neg b1]
        have b1' : (acc.length == 10) = false := beq_eq_false_iff_ne.mpr b1
        have hf := frag_ok (a := a) (e := e) h'
        have gf := frag_good (a := a) h.hg
        have hpass : ∀ T : SF, seqS (ifS (andT (truE (callM M_Parser_document "is_next" (getV 0) [(cV (.str t_name)), (cV (.str t_fragment))])) (boolE (bin2 eqD (bltE lenD [(getV 3)]) (cV (.int 10))))) (seqS (exprS (callM M_Parser_document "fail" (getV 0) [])) nxS) nxS) T [some (.loc n), some v1, some v2, some (.loc I.length)] (st (I ++ [.lst acc]) n (ds l) e a) = T [some (.loc n), some v1, some v2, some (.loc I.length)] (st (I ++ [.lst acc]) n (ds l) e a) := fun T => by
          cases b2 : isP l a t_name t_fragment <;> simp -implicitDefEqProofs [e_callM, callV_st h'.hn, next_p h', b2, hlc, b1']
        cases ho : fragP l a with
        | inl b =>
          rw [ho] at hf
          refine ⟨.lst acc, while_err ht ?_⟩
          unfold lb_Parser_document_1
          rw [hpass]
          simp -implicitDefEqProofs [e_callM, callV_st h'.hn, hla, hf, PR.r, doc]
        | inr q =>
          obtain ⟨v, c⟩ := q
          rw [ho] at hf gf
          have hap := o_append (d := v) (hc c) (by omega)
          dsimp only
          rw [while_nx (ρ2 := [some (.loc n), some v1, some v2, some (.loc I.length)]) (I2 := st (I ++ [.lst (acc ++ [v])]) n (ds l) e c) ht ?_]
          · exact ih c _ k (by have := gf.2.1; omega) (by omega) (by rw [List.length_append]; simp; omega)
          · unfold lb_Parser_document_1
            rw [hpass]
            simp -implicitDefEqProofs [e_callM, callV_st h'.hn, hla, hf, PR.r, hap, st_setc h.hn]
    · rw [if_neg b0]
      refine ⟨acc, rfl, while_no ?_⟩
      simp -implicitDefEqProofs [lt_Parser_document_1, e_attr, at_at h'.hn, at_words h'.hn, ds_len, b0]
theorem ldoc_loop (g : Gds l) (hl : l.length ≤ 1000000) (L : List D) (v1 v2 : D) : ∀ f j a acc x5 x6, j + f = l.length → acc.length + f ≤ 3000000 →
    match docL l f a acc with
    | .inl b => ∃ k, forL ⟨L, none⟩ (nameT 5) lb_l_document_at_1 (upTo j l.length) [some (.lst (ds l)), some v1, some v2, some (.loc J.length), some (nI a), x5, x6] (J ++ [.lst acc]) = .ret (.tup [.str t_bad, nI b]) (J ++ [k])
    | .inr (v, c) => ∃ acc' y5 y6, v = .tup acc' ∧ forL ⟨L, none⟩ (nameT 5) lb_l_document_at_1 (upTo j l.length) [some (.lst (ds l)), some v1, some v2, some (.loc J.length), some (nI a), x5, x6] (J ++ [.lst acc]) = .nx [some (.lst (ds l)), some v1, some v2, some (.loc J.length), some (nI c), y5, y6] (J ++ [.lst acc']) := by
  intro f
  induction f with
  | zero =>
    intro j a acc x5 x6 h1 h2
    rw [upTo_nil (by omega)]
    exact ⟨acc, x5, x6, rfl, for_nil⟩
  | succ f ih =>
    intro j a acc x5 x6 h1 h2
    rw [upTo_cons (by omega)]
    have hc := new_get (I := J) (c := .lst acc)
    have hlc := o_lencell hc
    have hla := o_isLst hc
    have hnm : nameT 5 (nI j) [some (.lst (ds l)), some v1, some v2, some (.loc J.length), some (nI a), x5, x6] (J ++ [.lst acc]) = .nx [some (.lst (ds l)), some v1, some v2, some (.loc J.length), some (nI a), some (nI j), x6] (J ++ [.lst acc]) := rfl
    by_cases b0 : a < l.length
    · unfold docL
      rw [if_pos b0]
      by_cases b1 : acc.length = 10
      · rw [if_pos b1]
        have hf := fun J => l_frag_10 (a := a) (J := J) g
        refine ⟨.lst acc, ?_⟩
        rw [for_ret hnm (d := .tup [.str t_bad, nI a]) (I2 := J ++ [.lst acc])]
        simp -implicitDefEqProofs [lb_l_document_at_1, ds_len, b0, hlc, b1, hf]
      · rw [if_neg b1]
        have b1' : (acc.length == 10) = false := beq_eq_false_iff_ne.mpr b1
        have hf := fun J => l_frag_ok (a := a) (J := J) g hl b1'
        cases ho : fragP l a with
        | inl b =>
          refine ⟨.lst acc, ?_⟩
          rw [for_ret hnm (d := .tup [.str t_bad, nI b]) (I2 := J ++ [.lst acc])]
          simp -implicitDefEqProofs [lb_l_document_at_1, ds_len, b0, hlc, hf, ho, PR.t]
        | inr q =>
          obtain ⟨v, c⟩ := q
          have hap := o_append (d := v) hc (by omega)
          dsimp only
          rw [for_nx hnm (ρ2 := [some (.lst (ds l)), some v1, some v2, some (.loc J.length), some (nI c), some (nI j), some (.tup [.str t_ok, v, nI c])]) (I2 := J ++ [.lst (acc ++ [v])])]
          · exact ih (j + 1) c (acc ++ [v]) _ _ (by omega) (by rw [List.length_append]; simp; omega)
          · simp -implicitDefEqProofs [lb_l_document_at_1, ds_len, b0, hlc, hf, ho, PR.t, bo, hla, hap]
    · have ih' := ih (j + 1) a acc (some (nI j)) x6 (by omega) (by omega)
      rw [docL_done (by omega)] at ih' ⊢
      rw [for_nx hnm (ρ2 := [some (.lst (ds l)), some v1, some v2, some (.loc J.length), some (nI a), some (nI j), x6]) (I2 := J ++ [.lst acc])]
      · exact ih'
      · simp -implicitDefEqProofs [lb_l_document_at_1, ds_len, b0]
def docP (l : List Wd) : Nat ⊕ (D × D × D) := if isP l 0 t_name t_query then (match declP l 1 with
    | .inl b => .inl b
    | .inr (v1, c1) => match selP l 10 c1 with
      | .inl b => .inl b
      | .inr (v2, c2) => match docL l l.length c2 [] with
        | .inl b => .inl b
        | .inr (v3, _) => .inr (v1, v2, v3)) else .inl 0
theorem l_doc_ok (g : Gds l) (hl : l.length ≤ 1000000) : ∃ c, F_l_document_at [.lst (ds l)] J = .ok (match docP l with
    | .inl b => .tup [.str t_bad, nI b]
    | .inr (v1, v2, v3) => .tup [.str t_ok, .tup [v1, v2, v3], nI c]) J := by
  have hl' : l.length ≤ 16777216 := by omega
  have hsel : ∀ a J, W_l_field_at 60 1 [.lst (ds l), nI a, .int 1] J = .ok (selP l 10 a).t J := fun a J => l_selection_ok g hl 10 1 60 a J rfl (by omega)
  have hd := fun a J => l_decl_ok (a := a) (J := J) g hl
  have hd1 : ∀ J, F_l_declared [.lst (ds l), .int 1] J = .ok (declP l 1).t J := fun J => hd 1 J
  have hi0 : ∀ J, F_l_is [.lst (ds l), .int 0, .str t_name, .str t_query] J = .ok (.bl (isP l 0 t_name t_query)) J := fun J => is_l (a := 0) g (by simp) (by simp)
  unfold F_l_document_at b_l_document_at docP
  simp only [run_def]
  by_cases b0 : isP l 0 t_name t_query = true
  · rw [if_pos b0]
    have g1 := declP_good (a := 1) g
    cases h1 : declP l 1 with
    | inl b => exact ⟨0, by simp -implicitDefEqProofs [sb_l_document_at_1, sb_l_document_at_2, sb_l_document_at_3, hi0, b0, hd1, h1, PR.t]⟩
    | inr q =>
      obtain ⟨v1, c1⟩ := q
      rw [h1] at g1
      dsimp only
      have g2 := sel_good g 10 c1
      cases h2 : selP l 10 c1 with
      | inl b => exact ⟨0, by simp -implicitDefEqProofs [sb_l_document_at_1, sb_l_document_at_2, sb_l_document_at_3, sb_l_document_at_4, sb_l_document_at_5, hi0, b0, hd1, h1, bo, hsel, h2, PR.t]⟩
      | inr q =>
        obtain ⟨v2, c2⟩ := q
        rw [h2] at g2
        dsimp only
        have lp := ldoc_loop (J := J) g hl (upTo 0 l.length) (.tup [.str t_ok, v1, nI c1]) (.tup [.str t_ok, v2, nI c2]) l.length 0 c2 [] none none (by omega) (by simp; omega)
        have g3 := docL_good g l.length c2 [] unders0
        cases h3 : docL l l.length c2 [] with
        | inl b =>
          rw [h3] at lp
          obtain ⟨k, hk⟩ := lp
          exact ⟨0, by simp -implicitDefEqProofs [sb_l_document_at_1, sb_l_document_at_2, sb_l_document_at_3, sb_l_document_at_4, sb_l_document_at_5, sb_l_document_at_6, sb_l_document_at_7, sb_l_document_at_8, sb_l_document_at_9, hi0, b0, hd1, h1, bo, hsel, h2, PR.t, ds_len, hl', hk, trim_app]⟩
        | inr q =>
          obtain ⟨v3, c3⟩ := q
          rw [h3] at lp g3
          obtain ⟨acc, y5, y6, rfl, hk⟩ := lp
          have htc := o_tuplecell (new_get (I := J) (c := .lst acc))
          refine ⟨c3, ?_⟩
          have hu : D.under 0 (.tup [.str t_ok, .tup [v1, v2, .tup acc], nI c3]) = true := by simpa [g1.1, g2.1] using g3.1
          have hfin : fin J (.tup [.str t_ok, .tup [v1, v2, .tup acc], nI c3]) (J ++ [.lst acc]) = .ok (.tup [.str t_ok, .tup [v1, v2, .tup acc], nI c3]) J := by
            rw [fin_cl hu, trim_app (cl_under hu)]
          simp -implicitDefEqProofs [-fin_t3, sb_l_document_at_1, sb_l_document_at_2, sb_l_document_at_3, sb_l_document_at_4, sb_l_document_at_5, sb_l_document_at_6, sb_l_document_at_7, sb_l_document_at_8, sb_l_document_at_9, hi0, b0, hd1, h1, bo, hsel, h2, PR.t, ds_len, hl', hk, htc, hfin]
  · have b0' : isP l 0 t_name t_query = false := by simpa using b0
    rw [if_neg b0]
    refine ⟨0, ?_⟩
    have hn : nI 0 = .int 0 := rfl
    simp -implicitDefEqProofs [sb_l_document_at_1, hi0, b0', hn]
/-! making objects -/
theorem e_fld {tb : Clt} {m : Str} {fo : EF} {d : D} : fldT tb m fo d ρ I = (fo ρ I).bindS fun o I1 => (setA tb m o d I1).bindS fun _ I2 => .nx ρ I2 := rfl
theorem set_ins {tb : Clt} {m cl : Str} {fs : List (Str × D)} {v : D} : setA tb m (.loc I.length) v (I ++ [.ins cl fs]) = if hasAttr tb cl m && decide (fs.length < 1000) then .ok () (I ++ [.ins cl (putD m v fs)]) else .stuck := by
  have : insOf (I ++ [.ins cl fs]) (.loc I.length) = some (I.length, cl, fs) := by
    unfold insOf
    dsimp only
    rw [new_get]
  unfold setA
  rw [this]
  dsimp only
  rw [new_set]
theorem doc_init {v1 v2 v3 : D} : F_Document_init [.loc I.length, v1, v2, v3] (I ++ [.ins "Document" []]) = .ok .non (I ++ [.ins "Document" [("variables", v1), ("selection", v2), ("fragments", v3)]]) := by
  have ha : ∀ m, m = "variables" ∨ m = "selection" ∨ m = "fragments" → hasAttr T_cls "Document" m = true := fun m h => by rcases h with rfl | rfl | rfl <;> decide
  have s1 : setA T_cls "variables" (.loc I.length) v1 (I ++ [.ins "Document" []]) = .ok () (I ++ [.ins "Document" [("variables", v1)]]) := by rw [set_ins]; rfl
  have s2 : setA T_cls "selection" (.loc I.length) v2 (I ++ [.ins "Document" [("variables", v1)]]) = .ok () (I ++ [.ins "Document" [("variables", v1), ("selection", v2)]]) := by rw [set_ins]; rfl
  have s3 : setA T_cls "fragments" (.loc I.length) v3 (I ++ [.ins "Document" [("variables", v1), ("selection", v2)]]) = .ok () (I ++ [.ins "Document" [("variables", v1), ("selection", v2), ("fragments", v3)]]) := by rw [set_ins]; rfl
  have ht : trim (I ++ [.ins "Document" []]) .non (I ++ [.ins "Document" [("variables", v1), ("selection", v2), ("fragments", v3)]]) = I ++ [.ins "Document" [("variables", v1), ("selection", v2), ("fragments", v3)]] := trim_len (by simp)
  unfold F_Document_init b_Document_init
  rw [run_def]
  simp -implicitDefEqProofs [e_fld, s1, s2, s3, ht]
theorem fin_ins {d : D} {m : Nat} {cl : Str} {fs : List (Str × D)} (hm : I.length ≤ m) (h : J[m]? = some (.ins cl fs)) : fin I (.loc m) J = .ok (.loc m) J := by
  unfold fin
  dsimp only
  rw [if_pos hm, h]
  dsimp only
  unfold trim
  rw [if_neg (fun z => by have : m < I.length := by simpa [D.under] using z.1
                          omega)]
theorem e_make {cl : Str} {k : Nat} {F : FF} {fs : List EF} : makeE cl k F fs ρ I = (seqA fs ρ I).bind fun xs I1 => if xs.length + 1 = k then (F (.loc I1.length :: xs) (I1 ++ [.ins cl []])).bind fun d I2 => match d with
  | .non => .ok (.loc I1.length) I2
  | _ => .stuck else .stuck := rfl
theorem document_ok (h : Pr I n l) : match docP l with
    | .inl b => F_Parser_document [.loc n] (st I n (ds l) e 0) = .err (doc (placeP l e b)) (st I n (ds l) e b)
    | .inr (v1, v2, v3) => ∃ m H, F_Parser_document [.loc n] (st I n (ds l) e 0) = .ok (.loc m) H ∧ I.length ≤ m ∧ H[m]? = some (.ins "Document" [("variables", v1), ("selection", v2), ("fragments", v3)]) := by
  have hl := h.hl
  have hsel : ∀ a, W_Parser_field 60 1 [.loc n, .int 10] (st I n (ds l) e a) = (selP l 10 a).r l I n e := fun a => selection_ok 10 60 I a (by omega) h
  have hd := fun a => decl_ok (a := a) (e := e) h
  unfold F_Parser_document b_Parser_document docP
  simp only [run_def]
  by_cases b0 : isP l 0 t_name t_query = true
  · rw [if_pos b0]
    have := is_lt b0
    have g1 := declP_good (a := 1) h.hg
    cases h1 : declP l 1 with
    | inl b => simp -implicitDefEqProofs [sb_Parser_document_1, sb_Parser_document_2, e_callM, callV_st h.hn, skip_p h, b0, hd, h1, PR.r, doc, trim_00 h]
    | inr q =>
      obtain ⟨v1, c1⟩ := q
      rw [h1] at g1
      dsimp only
      have g2 := sel_good h.hg 10 c1
      cases h2 : selP l 10 c1 with
      | inl b => simp -implicitDefEqProofs [sb_Parser_document_1, sb_Parser_document_2, sb_Parser_document_3, e_callM, callV_st h.hn, skip_p h, b0, hd, h1, hsel, h2, PR.r, doc, trim_00 h]
      | inr q =>
        obtain ⟨v2, c2⟩ := q
        rw [h2] at g2
        dsimp only
        have lp := doc_loop (e := e) h v1 v2 l.length c2 [] whileFuel (by have := g1.2.1; have := g2.2.1; omega) (by unfold whileFuel; omega) (by simp; omega)
        have g3 := docL_good h.hg l.length c2 [] unders0
        cases h3 : docL l l.length c2 [] with
        | inl b =>
          rw [h3] at lp
          obtain ⟨k, hk⟩ := lp
          simp -implicitDefEqProofs [sb_Parser_document_1, sb_Parser_document_2, sb_Parser_document_3, sb_Parser_document_4, sb_Parser_document_5, e_callM, callV_st h.hn, skip_p h, b0, hd, h1, hsel, h2, st_app h.hn, whileS, hk, PR.r, doc, trim_in h]
        | inr q =>
          obtain ⟨v3, c3⟩ := q
          rw [h3] at lp g3
          obtain ⟨acc, rfl, hk⟩ := lp
          have htc := o_tuplecell (st_cell (I := I) (e := e) (a := c3) (c := .lst acc) (ws := ds l) h.hn)
          have hin := doc_init (I := st (I ++ [.lst acc]) n (ds l) e c3) (v1 := v1) (v2 := v2) (v3 := .tup acc)
          have hg := new_get (I := st (I ++ [.lst acc]) n (ds l) e c3) (c := .ins "Document" [("variables", v1), ("selection", v2), ("fragments", .tup acc)])
          have hm : (st I n (ds l) e 0).length ≤ (st (I ++ [.lst acc]) n (ds l) e c3).length := by simp
          have hf := fin_ins (d := .non) hm hg
          refine ⟨(st (I ++ [.lst acc]) n (ds l) e c3).length, _, ?_, by simp, hg⟩
          simp -implicitDefEqProofs [-st_len, sb_Parser_document_1, sb_Parser_document_2, sb_Parser_document_3, sb_Parser_document_4, sb_Parser_document_5, sb_Parser_document_6, e_callM, callV_st h.hn, skip_p h, b0, hd, h1, hsel, h2, st_app h.hn, whileS, show (st I n (ds l) e c2).length = I.length from st_len, hk, PR.r, e_make, htc, hin, hf]
  · have b0' : isP l 0 t_name t_query = false := by simpa using b0
    rw [if_neg b0]
    simp -implicitDefEqProofs [sb_Parser_document_1, e_callM, callV_st h.hn, skip_p h, b0', doc, trim_00 h]
end
end K07
/-! K07I: what is told and what is expected -/
namespace K07
open PySem PySem.Spec L2 MP
section
variable {I J : MH} {n e a b c : Nat} {l : List Wd} {ρ : En} {t : List Nat}
theorem items_l (ht : ∀ c ∈ t, c < 128) : ∀ {ws : List D}, (∀ d ∈ ws, WItem t d) → ∃ l, ds l = ws ∧ Gds l ∧ l.length = ws.length
  | [], _ => ⟨[], rfl, (fun x hx => by cases hx), rfl⟩
  | d :: ws, h => by
    obtain ⟨l, h1, h2, h3⟩ := items_l ht (ws := ws) fun d hd => h d (List.mem_cons_of_mem _ hd)
    obtain ⟨a, k, w, rfl, hw, hk⟩ := h d List.mem_cons_self
    refine ⟨⟨a, k, w⟩ :: l, by rw [← h1]; rfl, fun x hx => ?_, by simp [h3]⟩
    rcases List.mem_cons.mp hx with rfl | hx
    · rcases hw with ⟨rfl, z, rfl⟩ | ⟨hne, s, rfl, hs⟩
      · exact ⟨strOk_of hk, .inl ⟨z, rfl⟩, fun z => absurd rfl z⟩
      · have ok : PyData.strOk (toS s) = true := strOk_of fun c hc => (hs c hc).elim (ht c) id
        exact ⟨strOk_of hk, .inr ⟨s, rfl, ok⟩, fun _ => ⟨s, rfl, ok⟩⟩
    · exact h2 x hx
theorem split_len : ∀ (n a : Nat) (acc xs : List D), split n t a acc = .inr xs → xs.length ≤ acc.length + n
  | 0, a, acc, xs, e => by
    unfold split at e
    cases e
    omega
  | n + 1, a, acc, xs, e => by
    unfold split at e
    split at e
    · cases hw : word t a with
      | none => rw [hw] at e; cases e
      | some q =>
        obtain ⟨k, w, e2⟩ := q
        rw [hw] at e
        have := split_len n _ _ xs e
        rw [List.length_append] at this
        simp at this
        omega
    · cases e
      omega
theorem words_l (ht : ∀ c ∈ t, c < 128) {ws : List D} (h : words t = .inr ws) : ∃ l, ds l = ws ∧ Gds l ∧ l.length ≤ t.length := by
  obtain ⟨l, h1, h2, h3⟩ := items_l ht (words_items h)
  refine ⟨l, h1, h2, ?_⟩
  have := split_len _ _ _ _ h
  simp at this
  omega
theorem st_new {ws : List D} : st (J ++ [.dead]) J.length ws e a = J ++ [pcell ws e a] := by
  unfold st
  rw [new_set]
theorem init_ok (hz : t.length ≤ 1000000) {ws : List D} (h : words t = .inr ws) : F_Parser_init [.loc J.length, .str t] (J ++ [.ins "Parser" []]) = .ok .non (J ++ [pcell ws t.length 0]) := by
  have hz' : t.length ≤ 16777216 := by omega
  have hs := fun J => split_words_ok hz J
  rw [h] at hs
  have s1 : setA T_cls "words" (.loc J.length) (.lst ws) (J ++ [.ins "Parser" []]) = .ok () (J ++ [.ins "Parser" [("words", .lst ws)]]) := by rw [set_ins]; rfl
  have s2 : setA T_cls "end" (.loc J.length) (nI t.length) (J ++ [.ins "Parser" [("words", .lst ws)]]) = .ok () (J ++ [.ins "Parser" [("words", .lst ws), ("end", nI t.length)]]) := by rw [set_ins]; rfl
  have s3 : setA T_cls "at" (.loc J.length) (.int 0) (J ++ [.ins "Parser" [("words", .lst ws), ("end", nI t.length)]]) = .ok () (J ++ [pcell ws t.length 0]) := by rw [set_ins]; rfl
  have ht : trim (J ++ [.ins "Parser" []]) .non (J ++ [pcell ws t.length 0]) = J ++ [pcell ws t.length 0] := trim_len (by simp)
  unfold F_Parser_init b_Parser_init
  rw [run_def]
  simp -implicitDefEqProofs [e_fld, hs, s1, s2, hz', s3, ht]
theorem init_err (hz : t.length ≤ 1000000) {p : Nat} (h : words t = .inl p) : F_Parser_init [.loc J.length, .str t] (J ++ [.ins "Parser" []]) = .err (doc p) (J ++ [.ins "Parser" []]) := by
  have hs := fun J => split_words_ok hz J
  rw [h] at hs
  unfold F_Parser_init b_Parser_init
  rw [run_def]
  simp -implicitDefEqProofs [e_fld, hs, doc]
theorem parse_err (hz : t.length ≤ 1000000) {p : Nat} (h : words t = .inl p) : F_parse_document [.str t] J = .err (doc p) J := by
  have hi := fun J : MH => init_err (J := J) hz h
  have ht : trim J (nI p) (J ++ [.ins "Parser" []]) = J := trim_app (by simp)
  unfold F_parse_document b_parse_document
  rw [run_def]
  simp -implicitDefEqProofs [e_callM, e_make, hi, doc, ht]
theorem parse_ok (hz : t.length ≤ 1000000) (h : words t = .inr (ds l)) (g : Gds l) (hl : l.length ≤ t.length) : match docP l with
    | .inl b => F_parse_document [.str t] J = .err (doc (placeP l t.length b)) J
    | .inr (v1, v2, v3) => ∃ m H, F_parse_document [.str t] J = .ok (.loc m) H ∧ H[m]? = some (.ins "Document" [("variables", v1), ("selection", v2), ("fragments", v3)]) := by
  have hi := init_ok (J := J) hz h
  have hP : Pr (J ++ [.dead]) J.length l := ⟨by simp, by omega, g⟩
  have hd := document_ok (e := t.length) hP
  rw [← st_new] at hi
  unfold F_parse_document b_parse_document
  simp only [run_def]
  cases ho : docP l with
  | inl b =>
    rw [ho] at hd
    have ht : trim J (nI (placeP l t.length b)) (st (J ++ [.dead]) J.length (ds l) t.length b) = J := by rw [st_new]; exact trim_app (by simp)
    dsimp only at hd ⊢
    simp -implicitDefEqProofs [e_callM, e_make, hi, callV_st hP.hn, hd, doc, ht]
  | inr q =>
    obtain ⟨v1, v2, v3⟩ := q
    rw [ho] at hd
    obtain ⟨m, H, h1, h2, h3⟩ := hd
    have hm : J.length ≤ m := by simp at h2; omega
    have hf := fin_ins (d := .non) hm h3
    refine ⟨m, H, ?_, h3⟩
    simp -implicitDefEqProofs [e_callM, e_make, hi, callV_st hP.hn, h1, hf]
/-- what both tell -/
def ans (l : List Wd) (k : Nat) : D := match docP l with
  | .inl b => .tup [.str t_fault, nI (placeP l k b)]
  | .inr (v1, v2, v3) => .tup [.str t_document, .tup [v1, v2, v3]]
theorem att_ins {tb : Clt} {m : Str} {k : Nat} {cl : Str} {fs : List (Str × D)} (h : I[k]? = some (.ins cl fs)) : attrV tb m (.loc k) I = if hasAttr tb cl m then optR I (fs.lookup m) else .stuck := by
  unfold attrV insOf
  dsimp only
  rw [h]
theorem told_err (hz : t.length ≤ 1000000) {p : Nat} (h : words t = .inl p) : F_l_told [.str t] J = .ok (.tup [.str t_fault, nI p]) J := by
  have he := parse_err (J := J) hz h
  have hb : b_l_told [some (.str t), none, none] J = .err ⟨"InvalidDocument", some ("place", nI p)⟩ J := by
    unfold b_l_told
    simp -implicitDefEqProofs [he, doc]
  unfold F_l_told
  rw [run_def]
  have := try_err (c := "InvalidDocument") (sd := sdTup "place" t_fault) (d := .tup [.str t_fault, nI p]) hb rfl
  simp -implicitDefEqProofs [this]
theorem clean_att {m : Nat} {v1 v2 v3 : D} (h : I[m]? = some (.ins "Document" [("variables", v1), ("selection", v2), ("fragments", v3)])) : attrV T_cls "variables" (.loc m) I = .ok v1 I ∧ attrV T_cls "selection" (.loc m) I = .ok v2 I ∧ attrV T_cls "fragments" (.loc m) I = .ok v3 I := by
  refine ⟨?_, ?_, ?_⟩
  · rw [att_ins h]; rfl
  · rw [att_ins h]; rfl
  · rw [att_ins h]; rfl
theorem told_ok (hz : t.length ≤ 1000000) (h : words t = .inr (ds l)) (g : Gds l) (hl : l.length ≤ t.length) : ∃ H, F_l_told [.str t] J = .ok (ans l t.length) H := by
  have hp := parse_ok (J := J) hz h g hl
  unfold ans
  cases ho : docP l with
  | inl b =>
    rw [ho] at hp
    dsimp only at hp
    have hb : b_l_told [some (.str t), none, none] J = .err ⟨"InvalidDocument", some ("place", nI (placeP l t.length b))⟩ J := by
      unfold b_l_told
      simp -implicitDefEqProofs [hp, doc]
    unfold F_l_told
    simp only [run_def]
    have := try_err (c := "InvalidDocument") (sd := sdTup "place" t_fault) (d := .tup [.str t_fault, nI (placeP l t.length b)]) hb rfl
    exact ⟨J, by simp -implicitDefEqProofs [this]⟩
  | inr q =>
    obtain ⟨v1, v2, v3⟩ := q
    rw [ho] at hp
    obtain ⟨m, H, h1, h2⟩ := hp
    obtain ⟨a1, a2, a3⟩ := clean_att h2
    have hb : b_l_told [some (.str t), none, none] J = .ret (.tup [.str t_document, .tup [v1, v2, v3]]) H := by
      unfold b_l_told
      simp -implicitDefEqProofs [h1, e_attr, a1, a2, a3]
    unfold F_l_told
    simp only [run_def]
    have := try_ret (c := "InvalidDocument") (sd := sdTup "place" t_fault) hb
    have hf : fin J (.tup [.str t_document, .tup [v1, v2, v3]]) H = .ok (.tup [.str t_document, .tup [v1, v2, v3]]) (trim J (.tup [.str t_document, .tup [v1, v2, v3]]) H) := rfl
    exact ⟨_, by simp -implicitDefEqProofs [this, hf]; rfl⟩
theorem exp_err (hz : t.length ≤ 1000000) {p : Nat} (h : words t = .inl p) : F_l_expected [.str t] J = .ok (.tup [.str t_fault, nI p]) J := by
  have hs : ∀ J, F_l_split [.str t] J = .ok (.tup [.str t_fault, nI p]) J := fun J => by rw [l_split_ok hz J]; unfold told; rw [h]
  unfold F_l_expected b_l_expected
  rw [run_def]
  simp -implicitDefEqProofs [hs]
theorem exp_ok (hz : t.length ≤ 1000000) (h : words t = .inr (ds l)) (g : Gds l) (hl : l.length ≤ t.length) : F_l_expected [.str t] J = .ok (ans l t.length) J := by
  have hz' : t.length ≤ 16777216 := by omega
  have hs : ∀ J, F_l_split [.str t] J = .ok (.tup [.str t_words, .lst (ds l)]) J := fun J => by rw [l_split_ok hz J]; unfold told; rw [h]
  have hwf : ¬ t_words = t_fault := by decide
  have hbo : ¬ t_bad = t_ok := by decide
  obtain ⟨c, hc⟩ := l_doc_ok (J := J) g (by omega)
  unfold F_l_expected b_l_expected ans
  rw [run_def]
  cases ho : docP l with
  | inl b =>
    rw [ho] at hc
    dsimp only at hc
    by_cases hb : b < l.length
    · obtain ⟨x, hx⟩ : ∃ x, l[b]? = some x := ⟨l[b], List.getElem?_eq_getElem hb⟩
      have hp : placeP l t.length b = x.p := by unfold placeP; rw [hx]
      simp -implicitDefEqProofs [hs, hwf, hc, hbo, hz', ds_len, hb, ds_ix hx, wd_dd, wd0, hp]
    · have hp : placeP l t.length b = t.length := by unfold placeP; rw [List.getElem?_eq_none (by omega)]
      simp -implicitDefEqProofs [hs, hwf, hc, hbo, hz', ds_len, hb, hp]
  | inr q =>
    obtain ⟨v1, v2, v3⟩ := q
    rw [ho] at hc
    dsimp only at hc
    have hf : fin J (.tup [.str t_document, .tup [v1, v2, v3]]) J = .ok (.tup [.str t_document, .tup [v1, v2, v3]]) J := by
      show Res.ok _ (trim J _ J) = _
      rw [trim_self]
    simp -implicitDefEqProofs [hs, hwf, hc, hf]
end
end K07
namespace K07
open PySem PySem.Spec L2 MP
noncomputable def rf3 : SF := (seqS (ifS (andT (boolE (bin2 (cmpI fun i j => decide (j ≤ i)) (getV 2) (bin2 powD (cV (.int 10)) (cV (.int 18))))) (boolE (bin2 ltS (getV 1) (bltE lenD [(getV 0)])))) (seqS (retS (getV 2)) nxS) nxS) (seqS (retS (bin2 modD (bltE intD [(bin2 addD (bin2 mulSD (bltE intD [(bin2 addD (bin2 addD (bin2 mulSD (getV 2) (cV (.int 48271))) (bin2 mulSD (getV 1) (cV (.int 69621)))) (cV (.int 12345)))]) (cV (.int 40692))) (cV (.int 7)))]) (cV (.int 2147483399)))) nxS))
theorem rf3_ok (ns : List Int) (k : Nat) (J : MH) {v : Int} (hv : 0 ≤ v) : ∃ z : Int, 0 ≤ z ∧ rf3 [some (.scr ns), some (nI k), some (.int v)] J = .ret (.int z) J := by
  have m1 : ∀ i : Int, mulSD (.int i) (.int 48271) J = .ok (.int (i * 48271)) J := fun i => o_mul0 (by decide)
  have m2 : ∀ i : Nat, mulSD (nI i) (.int 69621) J = .ok (.int (i * 69621)) J := fun i => o_muln (by decide)
  have m3 : ∀ i : Int, mulSD (.int i) (.int 40692) J = .ok (.int (i * 40692)) J := fun i => o_mul0 (by decide)
  have m4 : ∀ i : Int, modD (.int i) (.int 2147483399) J = .ok (.int (i % 2147483399)) J := fun i => o_modi (by decide)
  by_cases h : 1000000000000000000 ≤ v
  · by_cases hk : k < ns.length
    · exact ⟨v, hv, by simp -implicitDefEqProofs [rf3, o_pow18, o_scrlen, h, hk]⟩
    · exact ⟨_, Int.emod_nonneg _ (show (2147483399 : Int) ≠ 0 by decide), by simp -implicitDefEqProofs [rf3, o_pow18, o_scrlen, h, hk, m1, m2, m3, m4, o_intI]; rfl⟩
  · exact ⟨_, Int.emod_nonneg _ (show (2147483399 : Int) ≠ 0 by decide), by simp -implicitDefEqProofs [rf3, o_pow18, o_scrlen, h, m1, m2, m3, m4, o_intI]; rfl⟩
theorem refill_ok (ns : List Int) (k : Nat) (J : MH) : ∃ z : Int, 0 ≤ z ∧ F_l_refill [.scr ns, nI k] J = .ok (.int z) J := by
  have m1 : ∀ i : Int, mulSD (.int 2) (.int i) J = .ok (.int (2 * i)) J := fun i => o_mul2 (by decide)
  have rest : ∀ v : Int, ∃ z : Int, 0 ≤ z ∧ seqS (ifS (boolE (bin2 ltS (getV 2) (cV (.int 0)))) (seqS (asgS (bin2 subD (cV (.int 1)) (bin2 mulSD (cV (.int 2)) (getV 2))) (nameT 2)) nxS) nxS) rf3 [some (.scr ns), some (nI k), some (.int v)] J = .ret (.int z) J := by
    intro v
    by_cases h : v < 0
    · obtain ⟨z, h0, e⟩ := rf3_ok ns k J (v := 1 - 2 * v) (by omega)
      exact ⟨z, h0, by simp -implicitDefEqProofs [h, m1, e]⟩
    · obtain ⟨z, h0, e⟩ := rf3_ok ns k J (v := v) (by omega)
      exact ⟨z, h0, by simp -implicitDefEqProofs [h, e]⟩
  unfold F_l_refill b_l_refill
  simp only [run_def]
  change ∃ z : Int, 0 ≤ z ∧ endD J (seqS _ (seqS _ (seqS _ rf3)) _ _) = _
  cases he : ns.isEmpty with
  | true =>
    obtain ⟨z, h0, e⟩ := rest 0
    rw [e_seq] at e
    exact ⟨z, h0, by simp -implicitDefEqProofs [o_scrtru, he] at e ⊢; simp -implicitDefEqProofs [e]⟩
  | false =>
    have hp : 0 < ns.length := by cases ns with
      | nil => cases he
      | cons => simp
    have hlt : k % ns.length < ns.length := Nat.mod_lt _ hp
    have hx : ∀ J, ixD (.scr ns) (nI (k % ns.length)) J = .ok (.int ns[k % ns.length]) J := fun J => o_scrix (List.getElem?_eq_getElem hlt)
    obtain ⟨z, h0, e⟩ := rest ns[k % ns.length]
    rw [e_seq] at e
    exact ⟨z, h0, by simp -implicitDefEqProofs [o_scrtru, he] at e ⊢; simp -implicitDefEqProofs [o_scrlen, o_modn hp, hx, e]⟩
/-- a draw -/
theorem draw_ok (ns : List Int) {s : Int} (hs : 0 < s ∧ s < 2 ^ 64) {i : Nat} {J : MH} {a : Nat} {b : Int} (hb : 0 ≤ b) (h : J[i]? = some (.lst [nI a, .int b])) :
    ∃ (d a' : Nat) (b' : Int), 0 ≤ b' ∧ (d : Int) < s ∧ F_l_draw [.loc i, .scr ns, .int s] J = .ok (nI d) (J.set i (.lst [nI a', .int b'])) := by
  have fin : ∀ (a' : Nat) (b' : Int) (J' : MH), 0 ≤ b' → J'[i]? = some (.lst [nI a', .int b']) → J' = J.set i (.lst [nI a', .int b']) ∨ J' = J →
      endD J (seqS (asgS (bin2 modD (bltE intD [(bin2 ixDD (getV 0) (cV (.int 1)))]) (getV 2)) (nameT 3)) (seqS (asgS (bin2 fdivD (bin2 ixDD (getV 0) (cV (.int 1))) (getV 2)) (subT (getV 0) (cV (.int 1)))) (seqS (retS (getV 3)) nxS)) [some (.loc i), some (.scr ns), some (.int s), none] J')
        = .ok (nI (b' % s).toNat) (J.set i (.lst [nI a', .int (b' / s)])) := by
    intro a' b' J' h0 hJ hJJ
    have e1 : ixDD (.loc i) (.int 1) J' = .ok (.int b') J' := (o_ixDloc hJ).trans (o_cell1 hJ)
    have e2 : setIx (.loc i) (.int 1) (.int (b' / s)) J' = .ok () (J'.set i (.lst [nI a', .int (b' / s)])) := o_set1 hJ
    have e3 : J'.set i (.lst [nI a', .int (b' / s)]) = J.set i (.lst [nI a', .int (b' / s)]) := by
      rcases hJJ with rfl | rfl
      · rw [List.set_set]
      · rfl
    have e4 : D.int (b' % s) = nI (b' % s).toNat := by
      show D.int (b' % s) = D.int (((b' % s).toNat : Nat) : Int)
      rw [Int.toNat_of_nonneg (Int.emod_nonneg _ (by omega))]
    have e5 : ∀ d, trim J d (J.set i (.lst [nI a', .int (b' / s)])) = J.set i (.lst [nI a', .int (b' / s)]) := fun d => trim_len (by simp)
    simp -implicitDefEqProofs [e1, o_intI, o_modi hs.1, o_divi hs, e_sub, e2, e3, e4, e5]
  have hd : ∀ b' : Int, 0 ≤ b' → (((b' % s).toNat : Nat) : Int) < s := fun b' h0 => by
    rw [Int.toNat_of_nonneg (Int.emod_nonneg _ (by omega))]
    exact Int.emod_lt_of_pos _ hs.1
  have hdiv : ∀ b' : Int, 0 ≤ b' → 0 ≤ b' / s := fun b' h0 => Int.ediv_nonneg h0 (by omega)
  unfold F_l_draw b_l_draw
  simp only [run_def]
  by_cases hz : b = 0
  · subst hz
    obtain ⟨z, hz0, hr⟩ := refill_ok ns a J
    have h1 : ixDD (.loc i) (.int 1) J = .ok (.int 0) J := (o_ixDloc h).trans (o_cell1 h)
    have h0 : ixDD (.loc i) (.int 0) J = .ok (nI a) J := (o_ixDloc h).trans (o_cell0 h)
    have s1 : setIx (.loc i) (.int 1) (.int z) J = .ok () (J.set i (.lst [nI a, .int z])) := o_set1 h
    have g1 : (J.set i (.lst [nI a, .int z]))[i]? = some (.lst [nI a, .int z]) := set_get h
    have h2 : ixDD (.loc i) (.int 0) (J.set i (.lst [nI a, .int z])) = .ok (nI a) (J.set i (.lst [nI a, .int z])) := (o_ixDloc g1).trans (o_cell0 g1)
    have s2 : setIx (.loc i) (.int 0) (nI (a + 1)) (J.set i (.lst [nI a, .int z])) = .ok () (J.set i (.lst [nI (a + 1), .int z])) := by
      rw [o_set0 g1, List.set_set]
    refine ⟨_, _, _, hdiv z hz0, hd z hz0, (Eq.trans ?_ (fin (a + 1) z (J.set i (.lst [nI (a + 1), .int z])) hz0 (set_get h) (.inl rfl)))⟩
    rw [e_seq]
    have : ifS (boolE (bin2 eqD (bin2 ixDD (getV 0) (cV (.int 1))) (cV (.int 0)))) (seqS (asgS (callE 2 F_l_refill [(getV 1), (bin2 ixDD (getV 0) (cV (.int 0)))]) (subT (getV 0) (cV (.int 1)))) (seqS (asgS (bin2 addD (bin2 ixDD (getV 0) (cV (.int 0))) (cV (.int 1))) (subT (getV 0) (cV (.int 0)))) nxS)) nxS [some (.loc i), some (.scr ns), some (.int s), none] J
        = .nx [some (.loc i), some (.scr ns), some (.int s), none] (J.set i (.lst [nI (a + 1), .int z])) := by
      simp -implicitDefEqProofs [h1, h0, hr, e_sub, s1, h2, s2]
    exact congrArg (endD J) ((congrArg (thenS · _) this).trans rfl)
  · have h1 : ixDD (.loc i) (.int 1) J = .ok (.int b) J := (o_ixDloc h).trans (o_cell1 h)
    refine ⟨_, _, _, hdiv b hb, hd b hb, (Eq.trans ?_ (fin a b J hb h (.inr rfl)))⟩
    rw [e_seq]
    have : ifS (boolE (bin2 eqD (bin2 ixDD (getV 0) (cV (.int 1))) (cV (.int 0)))) (seqS (asgS (callE 2 F_l_refill [(getV 1), (bin2 ixDD (getV 0) (cV (.int 0)))]) (subT (getV 0) (cV (.int 1)))) (seqS (asgS (bin2 addD (bin2 ixDD (getV 0) (cV (.int 0))) (cV (.int 1))) (subT (getV 0) (cV (.int 0)))) nxS)) nxS [some (.loc i), some (.scr ns), some (.int s), none] J
        = .nx [some (.loc i), some (.scr ns), some (.int s), none] J := by
      simp -implicitDefEqProofs [h1, hz]
    exact congrArg (endD J) ((congrArg (thenS · _) this).trans rfl)
end K07
/-! K07K: what is told compares -/
namespace MP
open PySem PySem.Spec L2
theorem shp_str {n : Nat} {s : List Nat} : shp n (.str s) = PyData.strOk (toS s) := by cases n <;> rfl
@[simp] theorem shp_int {n : Nat} {i : Int} : shp n (.int i) = true := by cases n <;> rfl
@[simp] theorem shp_n {n : Nat} {i : Nat} : shp n (nI i) = true := shp_int
@[simp] theorem shp_bl {n : Nat} {i : Bool} : shp n (.bl i) = true := by cases n <;> rfl
@[simp] theorem shp_non {n : Nat} : shp n .non = true := by cases n <;> rfl
@[simp] theorem shp_tup {n : Nat} {xs : List D} : shp (n + 1) (.tup xs) = shps n xs := rfl
@[simp] theorem shp_lst {n : Nat} {xs : List D} : shp (n + 1) (.lst xs) = shps n xs := rfl
@[simp] theorem shps_0 {n : Nat} : shps n [] = true := by cases n <;> rfl
@[simp] theorem shps_1 {n : Nat} {x : D} {xs : List D} : shps n (x :: xs) = (shp n x && shps n xs) := by cases n <;> rfl
theorem shps_app {n : Nat} : ∀ {xs ys : List D}, shps n (xs ++ ys) = (shps n xs && shps n ys)
  | [], ys => by simp
  | x :: xs, ys => by rw [List.cons_append, shps_1, shps_1, shps_app, Bool.and_assoc]
mutual
theorem shp_mono : ∀ {d : D} {n m : Nat}, shp n d = true → n ≤ m → shp m d = true
  | .non, _, _, _, _ => shp_non
  | .bl _, _, _, _, _ => shp_bl
  | .int _, _, _, _, _ => shp_int
  | .str s, n, m, h, _ => by rw [shp_str] at h ⊢; exact h
  | .tup xs, n, m, h, hl => by
    cases n with
    | zero => cases h
    | succ n =>
      obtain ⟨m, rfl⟩ : ∃ k, m = k + 1 := ⟨m - 1, by omega⟩
      rw [shp_tup] at h ⊢
      exact shps_mono h (by omega)
  | .lst xs, n, m, h, hl => by
    cases n with
    | zero => cases h
    | succ n =>
      obtain ⟨m, rfl⟩ : ∃ k, m = k + 1 := ⟨m - 1, by omega⟩
      rw [shp_lst] at h ⊢
      exact shps_mono h (by omega)
  | .scr _, n, _, h, _ => by cases n <;> cases h
  | .loc _, n, _, h, _ => by cases n <;> cases h
theorem shps_mono : ∀ {ds : List D} {n m : Nat}, shps n ds = true → n ≤ m → shps m ds = true
  | [], _, _, _, _ => shps_0
  | d :: ds, n, m, h, hl => by
    rw [shps_1] at h ⊢
    have h' := Bool.and_eq_true_iff.mp h
    rw [shp_mono h'.1 hl, shps_mono h'.2 hl]; rfl
end
mutual
theorem eqv_refl : ∀ {d : D} {n : Nat}, shp n d = true → eqvD d d = true
  | .non, _, _ => rfl
  | .bl _, _, _ => by simp [eqvD]
  | .int _, _, _ => by simp [eqvD]
  | .str s, n, h => by simp [eqvD]
  | .tup xs, n, h => by
    cases n with
    | zero => cases h
    | succ n => rw [shp_tup] at h; show eqvDs xs xs = true; exact eqvs_refl h
  | .lst xs, n, h => by
    cases n with
    | zero => cases h
    | succ n => rw [shp_lst] at h; show eqvDs xs xs = true; exact eqvs_refl h
  | .scr _, n, h => by cases n <;> cases h
  | .loc _, n, h => by cases n <;> cases h
theorem eqvs_refl : ∀ {ds : List D} {n : Nat}, shps n ds = true → eqvDs ds ds = true
  | [], _, _ => rfl
  | d :: ds, n, h => by
    rw [shps_1] at h
    have h' := Bool.and_eq_true_iff.mp h
    show (eqvD d d && eqvDs ds ds) = true
    rw [eqv_refl h'.1, eqvs_refl h'.2]; rfl
end
theorem o_eqrefl {d : D} {I : MH} (h : shp 64 d = true) : eqD d d I = .ok (.bl true) I := by
  unfold eqD cmpable
  rw [h, Bool.and_self, Bool.or_true, if_pos rfl, eqv_refl h]
end MP
namespace K07
open PySem PySem.Spec L2 MP
section
variable {I J : MH} {n e a b c : Nat} {l : List Wd} {ρ : En} {t : List Nat}
def PR.sh (o : PR) (k : Nat) : Prop := match o with
  | .inl _ => True
  | .inr (v, _) => shp k v = true
theorem sh_mono {o : PR} {k m : Nat} (h : o.sh k) (hl : k ≤ m) : o.sh m := by
  rcases o with b | ⟨v, c⟩
  · trivial
  · exact shp_mono h hl
theorem lit_shp {s : List Nat} {n : Nat} (h : lit s = true) : shp n (.str s) = true := by rw [shp_str]; exact ok_lit h
theorem wd_shp (g : Gds l) {n : Nat} : shp n (wdP l a) = true := by
  unfold wdP
  split
  · next x hx =>
    rcases (g.get hx).w with ⟨z, h⟩ | ⟨s, h, hs⟩
    · rw [h]; simp
    · rw [h, shp_str]; exact hs
  · simp
theorem ls1 {n : Nat} : shp n (.str t_number) = true := lit_shp (by decide)
theorem ls2 {n : Nat} : shp n (.str t_text) = true := lit_shp (by decide)
theorem ls3 {n : Nat} : shp n (.str t_variable) = true := lit_shp (by decide)
theorem ls4 {n : Nat} : shp n (.str t_name) = true := lit_shp (by decide)
theorem ls5 {n : Nat} : shp n (.str t_must) = true := lit_shp (by decide)
theorem ls6 {n : Nat} : shp n (.str t_list) = true := lit_shp (by decide)
theorem ls7 {n : Nat} : shp n (.str t_field) = true := lit_shp (by decide)
theorem ls8 {n : Nat} : shp n (.str t_spread) = true := lit_shp (by decide)
theorem ls9 {n : Nat} : shp n (.str t_on) = true := lit_shp (by decide)
theorem ls10 {n : Nat} : shp n (.str t_truth) = true := lit_shp (by decide)
theorem ls11 {n : Nat} : shp n (.str t_null) = true := lit_shp (by decide)
theorem ls12 {n : Nat} : shp n (.str t_fault) = true := lit_shp (by decide)
theorem ls13 {n : Nat} : shp n (.str t_document) = true := lit_shp (by decide)
theorem cst_shp {d v : D} (h : cstOf d = some v) : shp 1 v = true := by
  unfold cstOf at h
  split at h
  · rename_i s
    unfold tb_WORD_CONSTANTS at h
    simp only [List.lookup] at h
    split at h
    · cases h; simp [ls10]
    · split at h
      · cases h; simp [ls10]
      · split at h
        · cases h; simp [ls11]
        · cases h
  · cases h
theorem const_sh (g : Gds l) : (constP l a).sh 1 := by
  unfold constP
  split
  · simp [PR.sh, ls1, wd_shp g]
  split
  · simp [PR.sh, ls2, wd_shp g]
  split
  · split
    · rename_i v hv; exact cst_shp hv
    · trivial
  · trivial
theorem value_sh (g : Gds l) : (valueP l a).sh 1 := by
  unfold valueP
  split
  · simp [PR.sh, ls3, wd_shp g]
  · exact const_sh g
theorem bang_sh {v : D} {k : Nat} (h : shp k v = true) : (bangP l v a).sh (k + 1) := by
  unfold bangP
  split
  · simp [PR.sh, ls5, h]
  · exact shp_mono h (by omega)
theorem type_sh (g : Gds l) : ∀ d a, (typeP l d a).sh (2 * d + 2) := by
  intro d
  induction d with
  | zero =>
    intro a
    unfold typeP
    split
    · trivial
    split
    · exact bang_sh (k := 1) (by simp [ls4, wd_shp g])
    · trivial
  | succ d ih =>
    intro a
    unfold typeP
    split
    · have ih' := ih (a + 1)
      split
      · trivial
      · rename_i v c hv
        rw [hv] at ih'
        have i1 : shp (2 * d + 2) v = true := ih'
        split
        · exact bang_sh (k := 2 * d + 3) (by simp [ls6, i1])
        · trivial
    split
    · exact sh_mono (bang_sh (k := 1) (by simp [ls4, wd_shp g])) (by omega)
    · trivial
theorem args_sh (g : Gds l) : ∀ f a acc, shps 2 acc = true → (argsL l f a acc).sh 3 := by
  intro f
  induction f with
  | zero => intro a acc _; trivial
  | succ f ih =>
    intro a acc hu
    unfold argsL
    split
    · exact hu
    split
    · split
      · have gv := value_sh (a := a + 2) g
        split
        · trivial
        · rename_i v c hv
          rw [hv] at gv
          have g1 : shp 1 v = true := gv
          exact ih c _ (by rw [shps_app, hu]; simp [wd_shp g, g1])
      · trivial
    · trivial
theorem argsP_sh (g : Gds l) : (argsP l a).sh 3 := by
  unfold argsP
  split
  · exact args_sh g _ _ _ shps_0
  · simp [PR.sh]
theorem cond_sh (g : Gds l) : ∀ f a acc, shps 2 acc = true → (condL l f a acc).sh 3 := by
  intro f
  induction f with
  | zero => intro a acc _; trivial
  | succ f ih =>
    intro a acc hu
    unfold condL
    split
    · split
      · split
        · have gv := value_sh (a := a + 3) g
          split
          · trivial
          · rename_i v c hv
            rw [hv] at gv
            have g1 : shp 1 v = true := gv
            split
            · exact ih (c + 1) _ (by rw [shps_app, hu]; simp [wd_shp g, g1])
            · trivial
        · trivial
      · trivial
    · exact hu
theorem condP_sh (g : Gds l) : (condP l a).sh 3 := cond_sh g _ _ _ shps_0
theorem decl_sh (g : Gds l) : ∀ f a acc, shps 13 acc = true → (declL l f a acc).sh 14 := by
  intro f
  induction f with
  | zero => intro a acc _; trivial
  | succ f ih =>
    intro a acc hu
    unfold declL
    split
    · exact hu
    split
    · split
      · have gv := type_sh g 5 (a + 2)
        split
        · trivial
        · rename_i v c hv
          rw [hv] at gv
          have g1 : shp 12 v = true := gv
          split
          · have gw := const_sh (a := c + 1) g
            split
            · trivial
            · rename_i w p hp
              rw [hp] at gw
              have w1 : shp 12 w = true := shp_mono (show shp 1 w = true from gw) (by omega)
              exact ih p _ (by rw [shps_app, hu]; simp [wd_shp g, g1, w1])
          · exact ih c _ (by rw [shps_app, hu]; simp [wd_shp g, g1])
      · trivial
    · trivial
theorem declP_sh (g : Gds l) : (declP l a).sh 14 := by
  unfold declP
  split
  · exact decl_sh g _ _ _ shps_0
  · simp [PR.sh]
theorem restF_sh {sel : Nat → PR} {k : Nat} (g : Gds l) (hk : 3 ≤ k) (hs : ∀ a, (sel a).sh k) {key nm : D} (h1 : shp k key = true) (h2 : shp k nm = true) : (restF sel l key nm a).sh (k + 1) := by
  unfold restF
  have g1 := sh_mono (argsP_sh (a := a) g) hk
  split
  · trivial
  · rename_i v1 c1 e1
    rw [e1] at g1
    have g1' : shp k v1 = true := g1
    have g2 := sh_mono (condP_sh (a := c1) g) hk
    split
    · trivial
    · rename_i v2 c2 e2
      rw [e2] at g2
      have g2' : shp k v2 = true := g2
      split
      · have g3 := hs c2
        split
        · trivial
        · rename_i v3 c3 e3
          rw [e3] at g3
          have g3' : shp k v3 = true := g3
          simp [PR.sh, ls7, h1, h2, g1', g2', g3']
      · simp [PR.sh, ls7, h1, h2, g1', g2']
theorem fieldP_sh {sel : Nat → PR} {k : Nat} (g : Gds l) (hk : 3 ≤ k) (hs : ∀ a, (sel a).sh k) : (fieldP sel l a).sh (k + 1) := by
  unfold fieldP
  split
  · split
    · split
      · trivial
      · split
        · exact restF_sh g hk hs (wd_shp g) (wd_shp g)
        · trivial
    · exact restF_sh g hk hs (wd_shp g) (wd_shp g)
  · trivial
theorem restS_sh {sel : Nat → PR} {k : Nat} (g : Gds l) (hk : 3 ≤ k) (hs : ∀ a, (sel a).sh k) {nm : D} (h2 : shp k nm = true) : (restS sel l nm a).sh (k + 1) := by
  unfold restS
  have g1 := sh_mono (condP_sh (a := a) g) hk
  split
  · trivial
  · rename_i v1 c1 e1
    rw [e1] at g1
    have g1' : shp k v1 = true := g1
    have g2 := hs c1
    split
    · trivial
    · rename_i v2 c2 e2
      rw [e2] at g2
      have g2' : shp k v2 = true := g2
      simp [PR.sh, ls9, h2, g1', g2']
theorem spreadP_sh {sel : Nat → PR} {k : Nat} (g : Gds l) (hk : 3 ≤ k) (hs : ∀ a, (sel a).sh k) : (spreadP sel l a).sh (k + 1) := by
  unfold spreadP
  split
  · split
    · exact restS_sh g hk hs (wd_shp g)
    · trivial
  split
  · split
    · have g1 := sh_mono (condP_sh (a := a + 1) g) hk
      split
      · trivial
      · rename_i v c e1
        rw [e1] at g1
        have g1' : shp k v = true := g1
        simp [PR.sh, ls8, wd_shp g, g1']
    · trivial
  · exact restS_sh g hk hs shp_non
theorem parts_sh {fs ff : Nat → PR} {k : Nat} (hfs : ∀ a, (fs a).sh k) (hff : ∀ a, (ff a).sh k) : ∀ f a acc, shps k acc = true → (partsL fs ff l f a acc).sh (k + 1) := by
  intro f
  induction f with
  | zero => intro a acc _; trivial
  | succ f ih =>
    intro a acc hu
    unfold partsL
    split
    · exact hu
    have gp : (if isP l a t_sign t_dots then fs (a + 1) else ff a).sh k := by
      split
      · exact hfs (a + 1)
      · exact hff a
    split
    · trivial
    · rename_i v c hv
      rw [hv] at gp
      have g1 : shp k v = true := gp
      exact ih c _ (by rw [shps_app, hu]; simp [g1])
theorem sel_sh (g : Gds l) : ∀ d a, (selP l d a).sh (2 * d + 3) := by
  intro d
  induction d with
  | zero => intro a; trivial
  | succ d ih =>
    intro a
    unfold selP
    split
    · exact parts_sh (k := 2 * d + 4) (fun a => spreadP_sh g (by omega) ih) (fun a => fieldP_sh g (by omega) ih) _ _ _ shps_0
    · trivial
theorem frag_sh (g : Gds l) : (fragP l a).sh 24 := by
  unfold fragP
  split
  · split
    · split
      · split
        · have gs := sel_sh g 10 (a + 4)
          split
          · trivial
          · rename_i v c hv
            rw [hv] at gs
            have g1 : shp 23 v = true := gs
            simp [PR.sh, wd_shp g, g1]
        · trivial
      · trivial
    · trivial
  · trivial
theorem docL_sh (g : Gds l) : ∀ f a acc, shps 24 acc = true → (docL l f a acc).sh 25 := by
  intro f
  induction f with
  | zero => intro a acc hu; exact hu
  | succ f ih =>
    intro a acc hu
    unfold docL
    split
    · split
      · trivial
      · have gf := frag_sh (a := a) g
        split
        · trivial
        · rename_i v c hv
          rw [hv] at gf
          have g1 : shp 24 v = true := gf
          exact ih c _ (by rw [shps_app, hu]; simp [g1])
    · exact hu
theorem ans_shp (g : Gds l) (k : Nat) : shp 64 (ans l k) = true := by
  have key : match docP l with
      | .inl _ => True
      | .inr (v1, v2, v3) => shp 25 v1 = true ∧ shp 25 v2 = true ∧ shp 25 v3 = true := by
    unfold docP
    by_cases b0 : isP l 0 t_name t_query = true
    · rw [if_pos b0]
      have g1 := declP_sh (a := 1) g
      cases h1 : declP l 1 with
      | inl b => trivial
      | inr q =>
        obtain ⟨v1, c1⟩ := q
        rw [h1] at g1
        have g2 := sel_sh g 10 c1
        dsimp only
        cases h2 : selP l 10 c1 with
        | inl b => trivial
        | inr q =>
          obtain ⟨v2, c2⟩ := q
          rw [h2] at g2
          have g3 := docL_sh g l.length c2 [] shps_0
          dsimp only
          cases h3 : docL l l.length c2 [] with
          | inl b => trivial
          | inr q =>
            obtain ⟨v3, c3⟩ := q
            rw [h3] at g3
            exact ⟨shp_mono (show shp 14 v1 = true from g1) (by omega), shp_mono (show shp 23 v2 = true from g2) (by omega), g3⟩
    · rw [if_neg b0]
      trivial
  unfold ans
  cases ho : docP l with
  | inl b => simp [ls12]
  | inr q =>
    obtain ⟨v1, v2, v3⟩ := q
    rw [ho] at key
    obtain ⟨k1, k2, k3⟩ := key
    simp [ls13, shp_mono k1 (show 25 ≤ 62 by omega), shp_mono k2 (show 25 ≤ 62 by omega), shp_mono k3 (show 25 ≤ 62 by omega)]
end
end K07
/-! K07L: the law's pieces -/
namespace MP
open PySem PySem.Spec L2
section
variable {I J : MH}
def pcsD (ps : List (List Nat)) : D := .lst (ps.map D.str)
theorem cut_to {α : Type} {xs : List α} {k : Nat} : cutD xs none (some (k : Int)) = xs.take k := by
  unfold cutD
  rw [HT.sIx_none, HT.sIx_nat, List.drop_zero, Nat.sub_zero]
  by_cases h : k ≤ xs.length
  · rw [Nat.min_eq_left h]
  · rw [Nat.min_eq_right (by omega), List.take_length, List.take_of_length_le (by omega)]
theorem cut_from {α : Type} {xs : List α} {k : Nat} : cutD xs (some (k : Int)) none = xs.drop k := by
  unfold cutD
  rw [HT.sIx_none, HT.sIx_nat]
  by_cases h : k ≤ xs.length
  · rw [Nat.min_eq_left h, List.take_of_length_le (by rw [List.length_drop]; omega)]
  · rw [Nat.min_eq_right (by omega), List.drop_length, List.drop_of_length_le (by omega)]
    simp
theorem o_sll {xs : List D} {lo hi : Option Int} : slD (.lst xs) lo hi I = .ok (.lst (cutD xs lo hi)) I := rfl
theorem o_slto {ps : List (List Nat)} {k : Nat} : slD (pcsD ps) none (some (cI k)) I = .ok (pcsD (ps.take k)) I := by
  unfold pcsD
  rw [o_sll, show cI k = ((k : Nat) : Int) from rfl, cut_to, ← List.map_take]
theorem o_slfrom {ps : List (List Nat)} {k : Nat} : slD (pcsD ps) (some (cI k)) none I = .ok (pcsD (ps.drop k)) I := by
  unfold pcsD
  rw [o_sll, show cI k = ((k : Nat) : Int) from rfl, cut_from, ← List.map_drop]
theorem o_slfrom1 {ps : List (List Nat)} : slD (pcsD ps) (some 1) none I = .ok (pcsD (ps.drop 1)) I := o_slfrom (k := 1)
theorem o_addl {xs ys : List D} (h : xs.length + ys.length ≤ 16777216) : addD (.lst xs) (.lst ys) I = .ok (.lst (xs ++ ys)) I := by
  show (if small (xs.length + ys.length) then Res.ok (D.lst (xs ++ ys)) I else .stuck) = _
  rw [small_of h, if_pos rfl]
theorem o_addps {ps qs : List (List Nat)} (h : ps.length + qs.length ≤ 16777216) : addD (pcsD ps) (pcsD qs) I = .ok (pcsD (ps ++ qs)) I := by
  unfold pcsD
  rw [o_addl (by simpa using h), List.map_append]
theorem o_mulps {ps : List (List Nat)} {k : Nat} (h : ps.length * k ≤ 16777216) (hk : k ≤ 16777216) : mulSD (pcsD ps) (nI k) I = .ok (pcsD (List.replicate k ps).flatten) I := by
  have e : (cI k).toNat = k := by unfold cI; omega
  unfold pcsD nI mulSD
  dsimp only [lstOf]
  rw [e, List.length_map, small_of h, Bool.and_true, if_pos (decide_eq_true (by unfold cI; omega)), List.map_flatten, List.map_replicate]
theorem o_lenps {ps : List (List Nat)} : lenD [pcsD ps] I = .ok (nI ps.length) I := by
  show Res.ok (nI (ps.map D.str).length) I = _
  rw [List.length_map]
theorem o_ixps {ps : List (List Nat)} {d : Nat} (h : d < ps.length) : ixDD (pcsD ps) (nI d) I = .ok (.str ps[d]) I := by
  show ixD (.lst (ps.map D.str)) (nI d) I = _
  exact o_ixln (by rw [List.getElem?_map, List.getElem?_eq_getElem h]; rfl)
theorem strsOf_map : ∀ ps : List (List Nat), strsOf (ps.map D.str) = some ps
  | [] => rfl
  | p :: ps => by
    show (strsOf (ps.map D.str)).map (p :: ·) = _
    rw [strsOf_map ps]
    rfl
theorem o_join {ps : List (List Nat)} {s : List Nat} (h : (ps.map List.length).sum + s.length * ps.length ≤ 16777216) : joinD (.str s) [pcsD ps] I = .ok (.str (TL.joinL s ps)) I := by
  unfold pcsD joinD lstOf
  dsimp only [Option.bind]
  rw [strsOf_map]
  dsimp only
  rw [if_pos (decide_eq_true h)]
theorem sum_le {k : Nat} : ∀ {ps : List (List Nat)}, (∀ s ∈ ps, s.length ≤ k) → (ps.map List.length).sum ≤ k * ps.length
  | [], _ => by simp
  | p :: ps, h => by
    have h1 := sum_le (ps := ps) fun s hs => h s (List.mem_cons_of_mem _ hs)
    have h2 := h p List.mem_cons_self
    simp only [List.map_cons, List.sum_cons, List.length_cons]
    rw [Nat.mul_add, Nat.mul_one]
    omega
theorem join_len {s : List Nat} : ∀ ps : List (List Nat), (TL.joinL s ps).length ≤ (ps.map List.length).sum + s.length * ps.length
  | [] => by simp [TL.joinL]
  | [p] => by simp [TL.joinL]
  | p :: q :: r => by
    have h := join_len (s := s) (q :: r)
    simp only [TL.joinL, List.length_append, List.map_cons, List.sum_cons, List.length_cons, Nat.mul_add] at h ⊢
    omega
theorem join_mem {s : List Nat} {c : Nat} : ∀ ps : List (List Nat), c ∈ TL.joinL s ps → c ∈ s ∨ ∃ p ∈ ps, c ∈ p
  | [], h => by simp [TL.joinL] at h
  | [p], h => .inr ⟨p, List.mem_cons_self, h⟩
  | p :: q :: r, h => by
    simp only [TL.joinL, List.mem_append] at h
    rcases h with h | h | h
    · exact .inr ⟨p, List.mem_cons_self, h⟩
    · exact .inl h
    · rcases join_mem (q :: r) h with z | ⟨x, hx, hc⟩
      · exact .inl z
      · exact .inr ⟨x, List.mem_cons_of_mem _ hx, hc⟩
end
end MP
namespace K07
open PySem PySem.Spec L2 MP
section
variable {J : MH}
def PcOk (s : List Nat) : Prop := s.length ≤ 8 ∧ ∀ c ∈ s, c < 128
def PsOk (ps : List (List Nat)) (k : Nat) : Prop := 1 ≤ ps.length ∧ ps.length ≤ k ∧ ∀ s ∈ ps, PcOk s
def StAt (J : MH) (i : Nat) : Prop := ∃ (a : Nat) (b : Int), 0 ≤ b ∧ J[i]? = some (.lst [nI a, .int b])
theorem draw_st (ns : List Int) {s : Int} (hs : 0 < s ∧ s < 2 ^ 64) {i : Nat} {J : MH} (h : StAt J i) :
    ∃ (d : Nat) (c : Cell), (d : Int) < s ∧ F_l_draw [.loc i, .scr ns, .int s] J = .ok (nI d) (J.set i c) ∧ StAt (J.set i c) i := by
  obtain ⟨a, b, hb, hJ⟩ := h
  obtain ⟨d, a', b', h0, h1, h2⟩ := draw_ok ns hs hb hJ
  exact ⟨d, _, h1, h2, a', b', h0, set_get hJ⟩
def texts : List (List Nat) := [t_query, [123], [97], [58], [98], [40], [110], [58], tq_33, [116], [58], t_true, [41], [64], t_if, [40], tq_35, [41], [123], [99], [125], t_dots, t_on, [65], [123], [100], t_meta, [125], t_dots, [70], [64], t_unless, [40], t_false, [41], t_dots, [123], [101], [125], [125], t_fragment, [70], t_on, [65], [123], [103], [125]]
def texts1 : List (List Nat) := [t_query, [40], tq_33, [58], t_Int, [33], [61], [55], tq_35, [58], [91], [91], [65], [33], [93], [93], [41]]
def texts3 : List (List Nat) := [t_fragment, [71], t_on, [66], [123], [97], [125]]
def news : List (List Nat) := [[123], [125], [40], [41], [58], [61], [33], [91], [93], [64], t_dots, [97], t_on, t_if, t_true, t_null, tq_33, [55], tq_36, t_meta, t_query, t_fragment, tq_37, [46]]
instance (s : List Nat) : Decidable (PcOk s) := inferInstanceAs (Decidable (_ ∧ _))
theorem texts_pc : ∀ s ∈ texts, PcOk s := by decide
theorem texts1_pc : ∀ s ∈ texts1, PcOk s := by decide
theorem texts3_pc : ∀ s ∈ texts3, PcOk s := by decide
theorem news_pc : ∀ s ∈ news, PcOk s := by decide
theorem rep_pc {ps : List (List Nat)} {k : Nat} (h : ∀ s ∈ ps, PcOk s) : ∀ s ∈ (List.replicate k ps).flatten, PcOk s := fun s hs => by
  obtain ⟨l, h1, h2⟩ := List.mem_flatten.mp hs
  rw [(List.mem_replicate.mp h1).2] at h2
  exact h s h2
theorem rep_len {ps : List (List Nat)} {k : Nat} : (List.replicate k ps).flatten.length = k * ps.length := by simp
theorem app_pc {ps qs : List (List Nat)} (h : ∀ s ∈ ps, PcOk s) (h' : ∀ s ∈ qs, PcOk s) : ∀ s ∈ ps ++ qs, PcOk s := fun s hs => (List.mem_append.mp hs).elim (h s) (h' s)
theorem fin_ps {ps : List (List Nat)} {J' : MH} (h : J'.length = J.length) : fin J (pcsD ps) J' = .ok (pcsD ps) J' := by
  show Res.ok (pcsD ps) (trim J (pcsD ps) J') = _
  rw [trim_len h]
theorem start_ok (ns : List Int) (h : StAt J 0) : ∃ ps J', F_l_start [.loc 0, .scr ns] J = .ok (pcsD ps) J' ∧ PsOk ps 130 ∧ StAt J' 0 ∧ J'.length = J.length := by
  obtain ⟨d, c, h1, h2, h3⟩ := draw_st ns (s := 4) (by decide) h
  have s1 : ∀ x2 x3 x4 J, sb_l_start_1 [some (.loc 0), some (.scr ns), x2, x3, x4] J = .nx [some (.loc 0), some (.scr ns), some (pcsD texts), x3, x4] J := fun x2 x3 x4 J => by
    unfold sb_l_start_1
    simp -implicitDefEqProofs
    rfl
  have a8 : ∀ k J, addD (.int 8) (nI k) J = .ok (nI (8 + k)) J := fun k J => rfl
  have a7 : ∀ k J, addD (.int 7) (nI k) J = .ok (nI (7 + k)) J := fun k J => rfl
  have lt : texts.length = 47 := rfl
  have lt1 : texts1.length = 17 := rfl
  have lt3 : texts3.length = 7 := rfl
  have w1 : D.lst [D.str t_query, D.str [40], D.str tq_33, D.str [58], D.str t_Int, D.str [33], D.str [61], D.str [55], D.str tq_35, D.str [58], D.str [91], D.str [91], D.str [65], D.str [33], D.str [93], D.str [93], D.str [41]] = pcsD texts1 := rfl
  have w3 : D.lst [D.str t_fragment, D.str [71], D.str t_on, D.str [66], D.str [123], D.str [97], D.str [125]] = pcsD texts3 := rfl
  have q1 : D.lst [D.str t_query] = pcsD [t_query] := rfl
  have q2 : D.lst [D.str [123], D.str [97]] = pcsD [[123], [97]] := rfl
  have q3 : D.lst [D.str [125]] = pcsD [[125]] := rfl
  have hlen : (J.set 0 c).length = J.length := by simp
  unfold F_l_start b_l_start
  simp only [run_def]
  have hd : d = 0 ∨ d = 1 ∨ d = 2 ∨ d = 3 := by omega
  rcases hd with rfl | rfl | rfl | rfl
  · refine ⟨texts, J.set 0 c, ?_, ⟨by omega, by omega, texts_pc⟩, h3, hlen⟩
    simp -implicitDefEqProofs [s1, sb_l_start_2, sb_l_start_3, sb_l_start_4, sb_l_start_5, sb_l_start_6, h2, fin_ps hlen]
  · have ha : ∀ J, addD (pcsD texts1) (pcsD (texts.drop 1)) J = .ok (pcsD (texts1 ++ texts.drop 1)) J := fun J => o_addps (by rw [List.length_drop]; omega)
    refine ⟨texts1 ++ texts.drop 1, J.set 0 c, ?_, ⟨by rw [List.length_append]; omega, by rw [List.length_append, List.length_drop]; omega, app_pc texts1_pc fun s hs => texts_pc s (List.mem_of_mem_drop hs)⟩, h3, hlen⟩
    simp -implicitDefEqProofs [s1, sb_l_start_2, sb_l_start_3, h2, w1, o_slfrom1, ha, fin_ps hlen, -List.drop_one]
  · obtain ⟨d', c', h1', h2', h3'⟩ := draw_st ns (s := 6) (by decide) h3
    have hlen' : ((J.set 0 c).set 0 c').length = J.length := by simp
    have m2 : ∀ J, mulSD (pcsD [[123], [97]]) (nI (8 + d')) J = .ok (pcsD (List.replicate (8 + d') [[123], [97]]).flatten) J := fun J => o_mulps (by simp; omega) (by omega)
    have m3 : ∀ J, mulSD (pcsD [[125]]) (nI (8 + d')) J = .ok (pcsD (List.replicate (8 + d') [[125]]).flatten) J := fun J => o_mulps (by simp; omega) (by omega)
    have z1 : ∀ J, addD (pcsD [t_query]) (pcsD (List.replicate (8 + d') [[123], [97]]).flatten) J = .ok (pcsD ([t_query] ++ (List.replicate (8 + d') [[123], [97]]).flatten)) J := fun J => o_addps (by rw [rep_len]; simp; omega)
    have z2 : ∀ J, addD (pcsD ([t_query] ++ (List.replicate (8 + d') [[123], [97]]).flatten)) (pcsD (List.replicate (8 + d') [[125]]).flatten) J = .ok (pcsD ([t_query] ++ (List.replicate (8 + d') [[123], [97]]).flatten ++ (List.replicate (8 + d') [[125]]).flatten)) J := fun J => o_addps (by rw [List.length_append, rep_len, rep_len]; simp; omega)
    generalize hA : (List.replicate (8 + d') [[123], [97]]).flatten = A at m2 z1 z2
    generalize hB : (List.replicate (8 + d') [[125]]).flatten = B at m3 z2
    have lA : A.length = (8 + d') * 2 := by rw [← hA, rep_len]; rfl
    have lB : B.length = (8 + d') * 1 := by rw [← hB, rep_len]; rfl
    have pA : ∀ s ∈ A, PcOk s := by rw [← hA]; exact rep_pc (by decide)
    have pB : ∀ s ∈ B, PcOk s := by rw [← hB]; exact rep_pc (by decide)
    refine ⟨[t_query] ++ A ++ B, (J.set 0 c).set 0 c', ?_, ⟨by simp, by simp; omega, app_pc (app_pc (by decide) pA) pB⟩, h3', hlen'⟩
    simp -implicitDefEqProofs [s1, sb_l_start_2, sb_l_start_3, sb_l_start_4, h2] at h2' ⊢
    simp -implicitDefEqProofs [h2', a8, q1, q2, q3, m2, m3]
    simp -implicitDefEqProofs at z1 z2
    simp -implicitDefEqProofs [z1, z2, fin_ps (show (List.set J 0 c').length = J.length by simp)]
  · obtain ⟨d', c', h1', h2', h3'⟩ := draw_st ns (s := 5) (by decide) h3
    have hlen' : ((J.set 0 c).set 0 c').length = J.length := by simp
    have m3 : ∀ J, mulSD (pcsD texts3) (nI (7 + d')) J = .ok (pcsD (List.replicate (7 + d') texts3).flatten) J := fun J => o_mulps (by rw [lt3]; omega) (by omega)
    generalize hB : (List.replicate (7 + d') texts3).flatten = B at m3
    have lB : B.length = (7 + d') * 7 := by rw [← hB, rep_len, lt3]
    have z1 : ∀ J, addD (pcsD texts) (pcsD B) J = .ok (pcsD (texts ++ B)) J := fun J => o_addps (by omega)
    have pB : ∀ s ∈ B, PcOk s := by rw [← hB]; exact rep_pc texts3_pc
    refine ⟨texts ++ B, (J.set 0 c).set 0 c', ?_, ⟨by rw [List.length_append]; omega, by rw [List.length_append]; omega, app_pc texts_pc pB⟩, h3', hlen'⟩
    simp -implicitDefEqProofs [s1, sb_l_start_2, sb_l_start_3, sb_l_start_4, sb_l_start_5, h2] at h2' ⊢
    simp -implicitDefEqProofs [h2', a7, w3, m3, z1]
    simp -implicitDefEqProofs [fin_ps (show (List.set J 0 c').length = J.length by simp)]
end
end K07
/-! K07M: the law holds -/
namespace K07
open PySem PySem.Spec L2 MP
section
variable {J : MH}
theorem body_ok (ns : List Int) (h : StAt J 0) {ps : List (List Nat)} {k : Nat} (hp : PsOk ps k) (hk : k ≤ 1000) (x4 x5 x6 x7 x8 : Option D) : ∃ ps' J' y5 y6 y7, PsOk ps' (k + 1) ∧ StAt J' 0 ∧
    lb_law_1 [some (.scr ns), some (.loc 0), some (pcsD ps), some (pcsD news), x4, x5, x6, x7, x8] J = .nx [some (.scr ns), some (.loc 0), some (pcsD ps'), some (pcsD news), x4, y5, y6, y7, x8] J' := by
  obtain ⟨hp1, hp2, hp3⟩ := hp
  obtain ⟨a, c1, a1, a2, a3⟩ := draw_st ns (s := (ps.length : Int)) (by omega) h
  obtain ⟨d, c2, b1, b2, b3⟩ := draw_st ns (s := 4) (by decide) a3
  obtain ⟨w, c3, w1, w2, w3⟩ := draw_st ns (s := 24) (by decide) b3
  have a2' : F_l_draw [.loc 0, .scr ns, nI ps.length] J = .ok (nI a) (J.set 0 c1) := a2
  have hw : w < news.length := by
    have : news.length = 24 := rfl
    omega
  have hx := fun J => o_ixps (I := J) hw
  have pw := news_pc _ (List.getElem_mem hw)
  generalize hN : news[w] = nw at hx pw
  have q1 : D.lst [D.str nw] = pcsD [nw] := rfl
  have la : a < ps.length := by omega
  have pt : ∀ j, ∀ s ∈ ps.take j, PcOk s := fun j s hs => hp3 s (List.mem_of_mem_take hs)
  have pd : ∀ j, ∀ s ∈ ps.drop j, PcOk s := fun j s hs => hp3 s (List.mem_of_mem_drop hs)
  have pn : ∀ s ∈ [nw], PcOk s := fun s hs => by rw [List.mem_singleton] at hs; rw [hs]; exact pw
  have l1 : (ps.take a).length = a := by rw [List.length_take]; omega
  have l2 : (ps.drop a).length = ps.length - a := by rw [List.length_drop]
  have l3 : (ps.drop (a + 1)).length = ps.length - (a + 1) := by rw [List.length_drop]
  have l4 : (ps.take (a + 1)).length = a + 1 := by rw [List.length_take]; omega
  have z1 : ∀ J, addD (pcsD (ps.take a)) (pcsD (ps.drop (a + 1))) J = .ok (pcsD (ps.take a ++ ps.drop (a + 1))) J := fun J => o_addps (by omega)
  have z2 : ∀ J, addD (pcsD (ps.take a)) (pcsD [nw]) J = .ok (pcsD (ps.take a ++ [nw])) J := fun J => o_addps (by simp; omega)
  have z3 : ∀ J, addD (pcsD (ps.take a ++ [nw])) (pcsD (ps.drop a)) J = .ok (pcsD (ps.take a ++ [nw] ++ ps.drop a)) J := fun J => o_addps (by rw [List.length_append, l1, l2]; simp; omega)
  have z4 : ∀ J, addD (pcsD (ps.take a ++ [nw])) (pcsD (ps.drop (a + 1))) J = .ok (pcsD (ps.take a ++ [nw] ++ ps.drop (a + 1))) J := fun J => o_addps (by rw [List.length_append, l1, l3]; simp; omega)
  generalize hz3 : ps.take a ++ [nw] ++ ps.drop a = r3 at z3
  generalize hz4 : ps.take a ++ [nw] ++ ps.drop (a + 1) = r4 at z4
  generalize hz2 : ps.take a ++ [nw] = r2 at z2 z3 z4
  generalize hz1 : ps.take a ++ ps.drop (a + 1) = r1 at z1
  have lr1 : r1.length = ps.length - 1 := by rw [← hz1, List.length_append, l1, l3]; omega
  have lr3 : r3.length = ps.length + 1 := by rw [← hz3, List.length_append, List.length_append, l1, l2]; simp; omega
  have lr4 : r4.length = ps.length := by rw [← hz4, List.length_append, List.length_append, l1, l3]; simp; omega
  have pr1 : ∀ s ∈ r1, PcOk s := by rw [← hz1]; exact app_pc (pt _) (pd _)
  have pr3 : ∀ s ∈ r3, PcOk s := by rw [← hz3]; exact app_pc (app_pc (pt _) pn) (pd _)
  have pr4 : ∀ s ∈ r4, PcOk s := by rw [← hz4]; exact app_pc (app_pc (pt _) pn) (pd _)
  simp -implicitDefEqProofs at b2 w2
  have w3' : StAt (J.set 0 c3) 0 := by simpa using w3
  have tail : ∀ j : Nat, (j = 3 ∨ (j = 0 ∧ ¬ 1 < ps.length)) → d = j → ∃ ps' J' y5 y6 y7, PsOk ps' (k + 1) ∧ StAt J' 0 ∧
    lb_law_1 [some (.scr ns), some (.loc 0), some (pcsD ps), some (pcsD news), x4, x5, x6, x7, x8] J = .nx [some (.scr ns), some (.loc 0), some (pcsD ps'), some (pcsD news), x4, y5, y6, y7, x8] J' := by
    intro j hj hd
    refine ⟨ps.take (a + 1), J.set 0 c3, some (nI a), some (nI d), some (.str nw), ⟨by omega, by omega, pt _⟩, w3', ?_⟩
    rcases hj with rfl | ⟨rfl, hs⟩
    · subst hd
      simp -implicitDefEqProofs [lb_law_1, o_lenps, a2', b2, w2, hx, o_slto]
    · subst hd
      simp -implicitDefEqProofs [lb_law_1, o_lenps, a2', b2, w2, hx, hs, o_slto]
  have hd : d = 0 ∨ d = 1 ∨ d = 2 ∨ d = 3 := by omega
  rcases hd with rfl | rfl | rfl | rfl
  · by_cases hs : 1 < ps.length
    · refine ⟨r1, J.set 0 c3, some (nI a), some (nI 0), some (.str nw), ⟨by omega, by omega, pr1⟩, w3', ?_⟩
      simp -implicitDefEqProofs [lb_law_1, o_lenps, a2', b2, w2, hx, hs, o_slto, o_slfrom, z1]
    · exact tail 0 (.inr ⟨rfl, hs⟩) rfl
  · refine ⟨r3, J.set 0 c3, some (nI a), some (nI 1), some (.str nw), ⟨by omega, by omega, pr3⟩, w3', ?_⟩
    simp -implicitDefEqProofs [lb_law_1, o_lenps, a2', b2, w2, hx, o_slto, o_slfrom, q1, z2, z3]
  · refine ⟨r4, J.set 0 c3, some (nI a), some (nI 2), some (.str nw), ⟨by omega, by omega, pr4⟩, w3', ?_⟩
    simp -implicitDefEqProofs [lb_law_1, o_lenps, a2', b2, w2, hx, o_slto, o_slfrom, q1, z2, z4]
  · exact tail 3 (.inl rfl) rfl
theorem law_loop (ns : List Int) (L : List D) (x8 : Option D) : ∀ f j m (J : MH) (ps : List (List Nat)) k x4 x5 x6 x7, m - j = f → StAt J 0 → PsOk ps k → k + f ≤ 1000 →
    ∃ ps' J' y4 y5 y6 y7, PsOk ps' (k + f) ∧ StAt J' 0 ∧ forL ⟨L, none⟩ (nameT 4) lb_law_1 (upTo j m) [some (.scr ns), some (.loc 0), some (pcsD ps), some (pcsD news), x4, x5, x6, x7, x8] J = .nx [some (.scr ns), some (.loc 0), some (pcsD ps'), some (pcsD news), y4, y5, y6, y7, x8] J' := by
  intro f
  induction f with
  | zero =>
    intro j m J ps k x4 x5 x6 x7 h1 h2 h3 h4
    rw [upTo_nil (by omega)]
    exact ⟨ps, J, x4, x5, x6, x7, h3, h2, for_nil⟩
  | succ f ih =>
    intro j m J ps k x4 x5 x6 x7 h1 h2 h3 h4
    rw [upTo_cons (by omega)]
    obtain ⟨ps1, J1, y5, y6, y7, p1, p2, p3⟩ := body_ok ns h2 h3 (by omega) (some (nI j)) x5 x6 x7 x8
    have hnm : nameT 4 (nI j) [some (.scr ns), some (.loc 0), some (pcsD ps), some (pcsD news), x4, x5, x6, x7, x8] J = .nx [some (.scr ns), some (.loc 0), some (pcsD ps), some (pcsD news), some (nI j), x5, x6, x7, x8] J := rfl
    rw [for_nx hnm p3]
    obtain ⟨ps2, J2, z4, z5, z6, z7, q1, q2, q3⟩ := ih (j + 1) m J1 ps1 (k + 1) (some (nI j)) y5 y6 y7 (by omega) p2 p1 (by omega)
    exact ⟨ps2, J2, z4, z5, z6, z7, by rw [show k + (f + 1) = k + 1 + f by omega]; exact q1, q2, q3⟩
def ends : List (List Nat) := [[], [32], [10]]
theorem ends_pc : ∀ s ∈ ends, PcOk s := by decide
theorem law_true (ns : List Int) (h : ns.length ≤ 63) : ∃ I', F_law [.scr ns] [] = .ok (.bl true) I' := by
  have st0 : StAt [Cell.lst [D.int 0, D.int 0]] 0 := ⟨0, 0, by decide, rfl⟩
  obtain ⟨ps, J1, s1, s2, s3, _⟩ := start_ok ns st0
  obtain ⟨m, c, d1, d2, d3⟩ := draw_st ns (s := 4) (by decide) s3
  obtain ⟨ps', J2, y4, y5, y6, y7, p1, p2, p3⟩ := law_loop ns (upTo 0 m) none m 0 m (J1.set 0 c) ps 130 none none none none (by omega) d3 s2 (by omega)
  obtain ⟨hp1, hp2, hp3⟩ := p1
  obtain ⟨q, c', e1, e2, e3⟩ := draw_st ns (s := 3) (by decide) p2
  have hq : q < ends.length := by
    have : ends.length = 3 := rfl
    omega
  have hx := fun J => o_ixps (I := J) hq
  have pe := ends_pc _ (List.getElem_mem hq)
  generalize hE : ends[q] = en at hx pe
  have hsum := sum_le (k := 8) (ps := ps') fun s hs => (hp3 s hs).1
  have hj := fun J => o_join (I := J) (ps := ps') (s := [32]) (by simp; omega)
  have hjl := join_len (s := [32]) ps'
  have hjm : ∀ c ∈ TL.joinL [32] ps', c < 128 := fun c hc => by
    rcases join_mem ps' hc with z | ⟨p, z1, z2⟩
    · rw [List.mem_singleton] at z; omega
    · exact (hp3 p z1).2 c z2
  have hm : m ≤ 16777216 := by omega
  generalize TL.joinL [32] ps' = tx at hj hjl hjm
  have htl : tx.length ≤ 1200 := by simp at hjl; omega
  have hadd : ∀ J, addD (.str tx) (.str en) J = .ok (.str (tx ++ en)) J := fun J => o_adds (by have := pe.1; omega)
  have hz : (tx ++ en).length ≤ 1000000 := by rw [List.length_append]; have := pe.1; omega
  have hc : ∀ c ∈ tx ++ en, c < 128 := fun c hc => (List.mem_append.mp hc).elim (hjm c) (pe.2 c)
  generalize tx ++ en = t at hadd hz hc
  have w3 : D.lst [D.str [], D.str [32], D.str [10]] = pcsD ends := rfl
  have wN : D.lst [D.str [123], D.str [125], D.str [40], D.str [41], D.str [58], D.str [61], D.str [33], D.str [91], D.str [93], D.str [64], D.str t_dots, D.str [97], D.str t_on, D.str t_if, D.str t_true, D.str t_null, D.str tq_33, D.str [55], D.str tq_36, D.str t_meta, D.str t_query, D.str t_fragment, D.str tq_37, D.str [46]] = pcsD news := rfl
  have last : ∃ H, bin2 eqD (callE 1 F_l_told [(getV 8)]) (callE 1 F_l_expected [(getV 8)]) [some (.scr ns), some (.loc 0), some (pcsD ps'), some (pcsD news), y4, y5, y6, y7, some (.str t)] (J2.set 0 c') = .ok (.bl true) H := by
    cases hw : words t with
    | inl p =>
      have t1 := fun J => told_err (J := J) hz hw
      have t2 := fun J => exp_err (J := J) hz hw
      have t3 : ∀ J, eqD (.tup [.str t_fault, nI p]) (.tup [.str t_fault, nI p]) J = .ok (.bl true) J := fun J => o_eqrefl (by simp [ls12])
      exact ⟨_, by simp -implicitDefEqProofs [t1, t2, t3]; rfl⟩
    | inr ws =>
      obtain ⟨l, l1, l2, l3⟩ := words_l hc hw
      rw [← l1] at hw
      obtain ⟨H, t1⟩ := told_ok (J := J2.set 0 c') hz hw l2 l3
      have t2 := fun J => exp_ok (J := J) hz hw l2 l3
      have t3 : ∀ J, eqD (ans l t.length) (ans l t.length) J = .ok (.bl true) J := fun J => o_eqrefl (ans_shp l2 _)
      exact ⟨H, by simp -implicitDefEqProofs [t1, t2, t3]⟩
  obtain ⟨H, hH⟩ := last
  have ist : ∀ s : List Nat, isStr (.str s) = fun J => true := fun s => rfl
  refine ⟨trim [] (.bl true) H, ?_⟩
  unfold F_law b_law
  rw [run_def]
  have f1 : sb_law_1 [some (.scr ns), none, none, none, none, none, none, none, none] [] = .nx [some (.scr ns), some (.loc 0), none, none, none, none, none, none, none] [Cell.lst [D.int 0, D.int 0]] := by
    unfold sb_law_1
    simp -implicitDefEqProofs
  have f6 : sb_law_6 [some (.scr ns), some (.loc 0), some (pcsD ps'), some (pcsD news), y4, y5, y6, y7, some (.str t)] (J2.set 0 c') = .ret (.bl true) H := by
    unfold sb_law_6
    rw [e_ret, hH]
    rfl
  simp -implicitDefEqProofs [f1, sb_law_2, s1, sb_law_3, wN, sb_law_4, d2, hm, p3, sb_law_5, hj, w3, e2, hx, hadd, f6]
end
end K07
open PySem PySem.W PyProof.Rows
set_option maxRecDepth 100000 in
set_option maxHeartbeats 0 in
theorem PySem.Challenge.cw_seamgraph_k07_faults_of_documents_holds : PySem.Challenge.rw_seamgraph_k07_faults_of_documents.Holds := by
  w_on; o_law; k_head; (case hw => w_witness2)
  k_fill
  refine K07.walk (l := PySem.Challenge.rw_seamgraph_k07_faults_of_documents) rfl rfl (fun w h Y => PySem.W.kIn_of Y) ?F
  case F =>
    intro w mg fa h KX G hmg
    refine' K07.all_mk KX G hmg ?ca0 ?cp0 ?ch0 ?co0 ?cs0 ?cm0 ?ck0 ?cn0_0 ?cn0_1 ?cn0_2 ?ca1 ?cp1 ?ch1 ?co1 ?cs1 ?cm1 ?ck1 ?cn1_0 ?cn1_1 ?cn1_2 ?a0 ?l0 ?c0 ?k0 ?a1 ?l1 ?c1 ?k1 ?a2 ?l2 ?c2 ?k2 ?a3 ?l3 ?c3 ?k3 ?a4 ?l4 ?c4 ?k4 ?a5 ?l5 ?c5 ?k5 ?a6 ?l6 ?c6 ?k6 ?a7 ?l7 ?c7 ?k7 ?a8 ?l8 ?c8 ?k8 ?a9 ?l9 ?c9 ?k9 ?a10 ?l10 ?c10 ?k10 ?a11 ?l11 ?c11 ?k11 ?a12 ?l12 ?c12 ?k12 ?a13 ?l13 ?c13 ?k13 ?a14 ?l14 ?c14 ?k14 ?a15 ?l15 ?c15 ?k15 ?a16 ?l16 ?c16 ?k16 ?a17 ?l17 ?c17 ?k17 ?a18 ?l18 ?c18 ?k18 ?a19 ?l19 ?c19 ?k19 ?a20 ?l20 ?c20 ?k20 ?a21 ?l21 ?c21 ?k21 ?a22 ?l22 ?c22 ?k22 ?a23 ?l23 ?c23 ?k23 ?a24 ?l24 ?c24 ?k24 ?a25 ?l25 ?c25 ?k25 ?a26 ?l26 ?c26 ?k26 ?a27 ?l27 ?c27 ?k27 ?a28 ?l28 ?c28 ?k28 ?a29 ?l29 ?c29 ?k29 ?a30 ?l30 ?c30 ?k30 ?a31 ?l31 ?c31 ?k31 ?n31 ?a32 ?l32 ?c32 ?k32 ?n32 ?a33 ?l33 ?c33 ?k33 ?n33 ?a34 ?l34 ?c34 ?k34 ?n34 ?a35 ?l35 ?c35 ?k35 ?n35 ?a36 ?l36 ?c36 ?k36 ?n36 ?a37 ?l37 ?c37 ?k37 ?n37 ?a38 ?l38 ?c38 ?k38 ?n38 ?a39 ?l39 ?c39 ?k39 ?n39 ?a40 ?l40 ?c40 ?k40 ?n40 ?a41 ?l41 ?c41 ?k41 ?n41 ?a42 ?l42 ?c42 ?k42 ?n42 ?a43 ?l43 ?c43 ?k43 ?n43 ?a44 ?l44 ?c44 ?k44 ?n44 ?a45 ?l45 ?c45 ?k45 ?n45 ?a46 ?l46 ?c46 ?k46 ?n46 ?a47 ?l47 ?c47 ?k47 ?n47 ?a48 ?l48 ?c48 ?k48 ?n48 ?a49 ?l49 ?c49 ?k49 ?n49 ?a50 ?l50 ?c50 ?k50 ?n50 ?v0 ?v1 ?v2 ?v3 ?v4 ?v5 ?v6 ?v7 ?v8 ?v9 ?v10 ?z0 ?z1 ?z2 ?z3 ?z4 ?z5 ?z6 ?kda0 ?kdl0 ?kdt0_0 ?kdt0_1 ?kdt0_2 ?kdk0 ?kdo0 ?xa ?xS ?xL ?xbm ?xI ?xsa ?xn ?xi ?xt ?xk ?xeC ?xv ?xty ?xhd ?xsb ?xsu ?xany ?xl ?xc ?xsc' ?xln ?xcc ?xcd ?xfi ?xfp ?xtp ?xga ?xgg ?xcl ?xsp ?xtk ?xmo ?xss ?xki K07.law_true
    (case ca0 => k_is)
    (case cp0 => k_is)
    (case ch0 => k_is)
    (case co0 => k_is)
    (case cs0 => k_is)
    (case cm0 => k_is)
    (case ck0 => k_is)
    (case cn0_0 => k_is)
    (case cn0_1 => k_is)
    (case cn0_2 => k_is)
    (case ca1 => k_is)
    (case cp1 => k_is)
    (case ch1 => k_is)
    (case co1 => k_is)
    (case cs1 => k_is)
    (case cm1 => k_is)
    (case ck1 => k_is)
    (case cn1_0 => k_is)
    (case cn1_1 => k_is)
    (case cn1_2 => k_is)
    (case a0 => k_is)
    (case l0 => k_is)
    (case c0 => k_is)
    (case k0 => k_is)
    (case a1 => k_is)
    (case l1 => k_is)
    (case c1 => k_is)
    (case k1 => k_is)
    (case a2 => k_is)
    (case l2 => k_is)
    (case c2 => k_is)
    (case k2 => k_is)
    (case a3 => k_is)
    (case l3 => k_is)
    (case c3 => k_is)
    (case k3 => k_is)
    (case a4 => k_is)
    (case l4 => k_is)
    (case c4 => k_is)
    (case k4 => k_is)
    (case a5 => k_is)
    (case l5 => k_is)
    (case c5 => k_is)
    (case k5 => k_is)
    (case a6 => k_is)
    (case l6 => k_is)
    (case c6 => k_is)
    (case k6 => k_is)
    (case a7 => k_is)
    (case l7 => k_is)
    (case c7 => k_is)
    (case k7 => k_is)
    (case a8 => k_is)
    (case l8 => k_is)
    (case c8 => k_is)
    (case k8 => k_is)
    (case a9 => k_is)
    (case l9 => k_is)
    (case c9 => k_is)
    (case k9 => k_is)
    (case a10 => k_is)
    (case l10 => k_is)
    (case c10 => k_is)
    (case k10 => k_is)
    (case a11 => k_is)
    (case l11 => k_is)
    (case c11 => k_is)
    (case k11 => k_is)
    (case a12 => k_is)
    (case l12 => k_is)
    (case c12 => k_is)
    (case k12 => k_is)
    (case a13 => k_is)
    (case l13 => k_is)
    (case c13 => k_is)
    (case k13 => k_is)
    (case a14 => k_is)
    (case l14 => k_is)
    (case c14 => k_is)
    (case k14 => k_is)
    (case a15 => k_is)
    (case l15 => k_is)
    (case c15 => k_is)
    (case k15 => k_is)
    (case a16 => k_is)
    (case l16 => k_is)
    (case c16 => k_is)
    (case k16 => k_is)
    (case a17 => k_is)
    (case l17 => k_is)
    (case c17 => k_is)
    (case k17 => k_is)
    (case a18 => k_is)
    (case l18 => k_is)
    (case c18 => k_is)
    (case k18 => k_is)
    (case a19 => k_is)
    (case l19 => k_is)
    (case c19 => k_is)
    (case k19 => k_is)
    (case a20 => k_is)
    (case l20 => k_is)
    (case c20 => k_is)
    (case k20 => k_is)
    (case a21 => k_is)
    (case l21 => k_is)
    (case c21 => k_is)
    (case k21 => k_is)
    (case a22 => k_is)
    (case l22 => k_is)
    (case c22 => k_is)
    (case k22 => k_is)
    (case a23 => k_is)
    (case l23 => k_is)
    (case c23 => k_is)
    (case k23 => k_is)
    (case a24 => k_is)
    (case l24 => k_is)
    (case c24 => k_is)
    (case k24 => k_is)
    (case a25 => k_is)
    (case l25 => k_is)
    (case c25 => k_is)
    (case k25 => k_is)
    (case a26 => k_is)
    (case l26 => k_is)
    (case c26 => k_is)
    (case k26 => k_is)
    (case a27 => k_is)
    (case l27 => k_is)
    (case c27 => k_is)
    (case k27 => k_is)
    (case a28 => k_is)
    (case l28 => k_is)
    (case c28 => k_is)
    (case k28 => k_is)
    (case a29 => k_is)
    (case l29 => k_is)
    (case c29 => k_is)
    (case k29 => k_is)
    (case a30 => k_is)
    (case l30 => k_is)
    (case c30 => k_is)
    (case k30 => k_is)
    (case a31 => k_is)
    (case l31 => k_is)
    (case c31 => k_is)
    (case k31 => k_is)
    (case n31 => k_is)
    (case a32 => k_is)
    (case l32 => k_is)
    (case c32 => k_is)
    (case k32 => k_is)
    (case n32 => k_is)
    (case a33 => k_is)
    (case l33 => k_is)
    (case c33 => k_is)
    (case k33 => k_is)
    (case n33 => k_is)
    (case a34 => k_is)
    (case l34 => k_is)
    (case c34 => k_is)
    (case k34 => k_is)
    (case n34 => k_is)
    (case a35 => k_is)
    (case l35 => k_is)
    (case c35 => k_is)
    (case k35 => k_is)
    (case n35 => k_is)
    (case a36 => k_is)
    (case l36 => k_is)
    (case c36 => k_is)
    (case k36 => k_is)
    (case n36 => k_is)
    (case a37 => k_is)
    (case l37 => k_is)
    (case c37 => k_is)
    (case k37 => k_is)
    (case n37 => k_is)
    (case a38 => k_is)
    (case l38 => k_is)
    (case c38 => k_is)
    (case k38 => k_is)
    (case n38 => k_is)
    (case a39 => k_is)
    (case l39 => k_is)
    (case c39 => k_is)
    (case k39 => k_is)
    (case n39 => k_is)
    (case a40 => k_is)
    (case l40 => k_is)
    (case c40 => k_is)
    (case k40 => k_is)
    (case n40 => k_is)
    (case a41 => k_is)
    (case l41 => k_is)
    (case c41 => k_is)
    (case k41 => k_is)
    (case n41 => k_is)
    (case a42 => k_is)
    (case l42 => k_is)
    (case c42 => k_is)
    (case k42 => k_is)
    (case n42 => k_is)
    (case a43 => k_is)
    (case l43 => k_is)
    (case c43 => k_is)
    (case k43 => k_is)
    (case n43 => k_is)
    (case a44 => k_is)
    (case l44 => k_is)
    (case c44 => k_is)
    (case k44 => k_is)
    (case n44 => k_is)
    (case a45 => k_is)
    (case l45 => k_is)
    (case c45 => k_is)
    (case k45 => k_is)
    (case n45 => k_is)
    (case a46 => k_is)
    (case l46 => k_is)
    (case c46 => k_is)
    (case k46 => k_is)
    (case n46 => k_is)
    (case a47 => k_is)
    (case l47 => k_is)
    (case c47 => k_is)
    (case k47 => k_is)
    (case n47 => k_is)
    (case a48 => k_is)
    (case l48 => k_is)
    (case c48 => k_is)
    (case k48 => k_is)
    (case n48 => k_is)
    (case a49 => k_is)
    (case l49 => k_is)
    (case c49 => k_is)
    (case k49 => k_is)
    (case n49 => k_is)
    (case a50 => k_is)
    (case l50 => k_is)
    (case c50 => k_is)
    (case k50 => k_is)
    (case n50 => k_is)
    (case v0 => k_is)
    (case v1 => k_is)
    (case v2 => k_is)
    (case v3 => k_is)
    (case v4 => k_is)
    (case v5 => k_is)
    (case v6 => k_is)
    (case v7 => k_is)
    (case v8 => k_is)
    (case v9 => k_is)
    (case v10 => k_is)
    (case z0 => k_is)
    (case z1 => k_is)
    (case z2 => k_is)
    (case z3 => k_is)
    (case z4 => k_is)
    (case z5 => k_is)
    (case z6 => k_is)
    (case kda0 => k_is)
    (case kdl0 => k_is)
    (case kdt0_0 => k_is)
    (case kdt0_1 => k_is)
    (case kdt0_2 => k_is)
    (case kdk0 => k_keys)
    (case kdo0 => first | rfl | decide)
    (case xa => k_is)
    (case xS => k_is)
    (case xL => k_is)
    (case xbm => first | rfl | decide +kernel)
    (case xI => kx_is)
    (case xsa => k_is)
    (case xn => k_is)
    (case xi => k_is)
    (case xt => k_is)
    (case xk => k_is)
    (case xeC => k_is)
    (case xv => k_is)
    (case xty => k_is)
    (case xhd => k_is)
    (case xsb => k_is)
    (case xsu => ks_is)
    (case xany => k_is)
    (case xl => k_is)
    (case xc => k_is)
    (case xsc' => exact ⟨rfl, rfl, rfl, by decide +kernel, by decide +kernel, by decide +kernel, by decide +kernel, by decide +kernel⟩)
    (case xln => first | rfl | decide +kernel)
    (case xcc => k_is)
    (case xcd => k_is)
    (case xfi => rfl)
    (case xfp => first | rfl | decide +kernel)
    (case xtp => first | rfl | decide +kernel)
    (case xga => k_is)
    (case xgg => k_is)
    (case xcl => k_is)
    (case xsp => k_is)
    (case xtk => k_is)
    (case xmo => k_is)
    (case xss => first | rfl | k_is)
    (case xki => kit_is)
