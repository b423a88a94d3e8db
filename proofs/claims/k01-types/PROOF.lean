import PyProof.Rows.All
import Wide.All
import OpenK.AllK
import Wide.FinOn
import HandS.ForMost
import HandS.Exc
import HandS.ExcOwn
import HandS.TryOnly
import HandS.CallSlots
import HandS.IsInst
import HandS.Wide
import HandS.StrMore
import HandS.Flow
import HandS.WordsExc
import HandS.ExcCtx
import HandS.HotCalls
import HandS.ExcIs
import HandS.ExcField
import HandS.More
import HandS.AnyAll
import KE.KExcSuper
import HandS.GenList
import HandS.Comp
import KE.KExcIs
import HandS.HeadWalk
import HandS.Codes
import PySem.Challenge.RW_seamgraph_k01_types_and_names
set_option Elab.async false
set_option linter.all false
set_option maxRecDepth 100000
set_option maxHeartbeats 4000000
/-! MP0: data as trees, a small heap of mutable cells, and how both stand in the layer's abstract heap -/
namespace MP
open PySem PySem.Spec PyProof.Rows L2

inductive D where
  | non | bl (b : Bool) | int (i : Int) | str (s : List Nat)
  | tup (xs : List D) | lst (xs : List D) | scr (ns : List Int) | loc (n : Nat)

inductive Cell where
  | lst (xs : List D)
  | dct (kvs : List (Sum Int (List Nat) × D))
  | ins (c : Str) (fs : List (Str × D))
  | tab (cls m : Str)
  | dead
def Cell.live : Cell → Bool
  | .dead => false
  | _ => true
abbrev MH := List Cell

structure Exn where
  cls : Str
  fld : Option (Str × D)

inductive Res (α : Type) where
  | ok (a : α) (I : MH)
  | err (x : Exn) (I : MH)
  | stuck
abbrev En := List (Option D)
abbrev EF := En → MH → Res D
abbrev TF := En → MH → Res Bool
abbrev AF := En → MH → Res (List D)
inductive SRes where
  | nx (ρ : En) (I : MH)
  | ret (d : D) (I : MH)
  | brk (ρ : En) (I : MH)
  | cnt (ρ : En) (I : MH)
  | err (x : Exn) (I : MH)
  | stuck
abbrev SF := En → MH → SRes
abbrev FF := List D → MH → Res D

def Res.bind {α β : Type} (r : Res α) (k : α → MH → Res β) : Res β :=
  match r with
  | .ok a I => k a I
  | .err x I => .err x I
  | .stuck => .stuck
def Res.bindS {α : Type} (r : Res α) (k : α → MH → SRes) : SRes :=
  match r with
  | .ok a I => k a I
  | .err x I => .err x I
  | .stuck => .stuck

/-! ### the relation -/
def toS (s : List Nat) : Str := ⟨s.toArray⟩
def Live (μ : List Addr) (I : MH) (a : Addr) : Prop := ∃ (n : Nat) (c : Cell), μ[n]? = some a ∧ I[n]? = some c ∧ c.live = true

/-- the script: locked, or of the written part -/
def ScrAt (K : PySem.W.Frag) (H : Hp) (a : Addr) (xs : List V) : Prop := (∃ o, H a = some (.frz o (.lst xs))) ∨
  ∃ (o : Obj) (its : Array Value) (n : Nat), K.lookup a = some o ∧ o.cls = .type "list" ∧ o.dict = none ∧ o.data = .seq its n ∧ its.size ≤ sizeLine ∧ Vals xs its.toList
theorem ScrAt.sql {K : PySem.W.Frag} {H : Hp} {a : Addr} {xs : List V} (h : ScrAt K H a xs) : SqL K H a xs := by
  rcases h with ⟨o, h⟩ | h
  · exact .inl (.inr ⟨o, h⟩)
  · exact .inr h
/-- or a list that no cell stands for -/
def ScrR (K : PySem.W.Frag) (L : Addr → Prop) (H : Hp) (a : Addr) (xs : List V) : Prop := ScrAt K H a xs ∨ (H a = some (.lst xs) ∧ ¬ L a)
theorem ScrR.sql {K : PySem.W.Frag} {L : Addr → Prop} {H : Hp} {a : Addr} {xs : List V} (h : ScrR K L H a xs) : SqL K H a xs := by
  rcases h with h | h
  · exact h.sql
  · exact SqL.of h.1
/-! tables of code objects: the def that they belong to -/
def tabIn (K : PySem.W.Frag) (cd : Value) : Option Addr := match cd with
  | .ref c => (match K.lookup c with
    | some ⟨_, _, .fields vs, _⟩ => (match (vs[11]? : Option Value) with
      | some (Value.ref P) => some P
      | _ => none)
    | _ => none)
  | _ => none
def DefAt (K : PySem.W.Frag) (mg : Str → Option Value) (cls m : Str) (f : Addr) : Prop := (cls = "" ∧ mg m = some (.ref f)) ∨ (cls ≠ "" ∧ ∃ C, mg cls = some (.ref C) ∧ Meth K C m f)
def TabId (K : PySem.W.Frag) (mg : Str → Option Value) (cls m : Str) (a : Addr) : Prop := ∃ f oc od fd sl, DefAt K mg cls m f ∧ K.lookup f = some ⟨oc, od, .func fd, sl⟩ ∧ tabIn K fd.code = some a
theorem DefAt.uniq {K : PySem.W.Frag} {mg : Str → Option Value} {cls m : Str} {f g : Addr} (h : DefAt K mg cls m f) (h' : DefAt K mg cls m g) : f = g := by
  rcases h with ⟨e, h⟩ | ⟨e, C, h1, h2⟩
  · rcases h' with ⟨_, h'⟩ | ⟨e', _⟩
    · rw [h] at h'; cases h'; rfl
    · exact absurd e e'
  · rcases h' with ⟨e', _⟩ | ⟨_, C', g1, g2⟩
    · exact absurd e' e
    · rw [h1] at g1; cases g1
      have := h2.at_.symm.trans g2.at_
      cases this; rfl
theorem TabId.uniq {K : PySem.W.Frag} {mg : Str → Option Value} {cls m : Str} {a b : Addr} (h : TabId K mg cls m a) (h' : TabId K mg cls m b) : a = b := by
  obtain ⟨f, oc, od, fd, sl, h1, h2, h3⟩ := h
  obtain ⟨g, oc', od', fd', sl', g1, g2, g3⟩ := h'
  obtain rfl := h1.uniq g1
  rw [h2] at g2; cases g2
  rw [h3] at g3; cases g3; rfl
section
variable (K : PySem.W.Frag) (L : Addr → Prop) (μ : List Addr) (H : Hp)
mutual
def RepV : D → V → Prop
  | .non, v => v = .non
  | .bl b, v => v = .bl b
  | .int i, v => v = .int i
  | .str s, v => v = .str (toS s)
  | .tup xs, v => ∃ a vs, v = .ref a ∧ SqT K H a vs ∧ RepVs xs vs
  | .lst xs, v => ∃ a vs, v = .ref a ∧ H a = some (.lst vs) ∧ ¬ L a ∧ RepVs xs vs
  | .scr ns, v => ∃ a, v = .ref a ∧ ScrR K L H a (ns.map V.int)
  | .loc n, v => ∃ a, v = .ref a ∧ μ[n]? = some a
def RepVs : List D → List V → Prop
  | [], vs => vs = []
  | d :: ds, vs => ∃ v r, vs = v :: r ∧ RepV d v ∧ RepVs ds r
end
end

def RepK : Sum Int (List Nat) → Key → Prop
  | .inl i, k => k = .inl i
  | .inr s, k => k = .inr (toS s)
/-- a list of pairs -/
def RepP {α β : Type} (R : α → β → Prop) (S : D → V → Prop) : List (α × D) → List (β × V) → Prop
  | [], vs => vs = []
  | (k, d) :: ds, vs => ∃ k' v r, vs = (k', v) :: r ∧ R k k' ∧ S d v ∧ RepP R S ds r

abbrev RV (K : PySem.W.Frag) (μ : List Addr) (I : MH) (H : Hp) : D → V → Prop := RepV K (Live μ I) μ H
abbrev RVs (K : PySem.W.Frag) (μ : List Addr) (I : MH) (H : Hp) : List D → List V → Prop := RepVs K (Live μ I) μ H

def CellOk (K : PySem.W.Frag) (mg : Str → Option Value) (μ : List Addr) (I : MH) (H : Hp) (a : Addr) : Cell → Prop
  | .lst xs => ∃ vs, H a = some (.lst vs) ∧ RVs K μ I H xs vs
  | .dct kvs => ∃ ks, H a = some (.dK ks) ∧ RepP RepK (RV K μ I H) kvs ks
  | .ins c fs => ∃ C dx gs, mg c = some (.ref C) ∧ H a = some (.ins C dx gs) ∧ RepP (fun x y => x = y) (RV K μ I H) fs gs
  | .tab cls m => TabId K mg cls m a ∧ GxR.TabG H a
  | .dead => True

structure Ok (K : PySem.W.Frag) (mg : Str → Option Value) (μ : List Addr) (I : MH) (H : Hp) : Prop where
  len : μ.length = I.length
  inj : ∀ (n m : Nat) (a : Addr) (c c' : Cell), μ[n]? = some a → μ[m]? = some a → I[n]? = some c → I[m]? = some c' → c.live = true → c'.live = true → n = m
  cell : ∀ (n : Nat) (c : Cell) (a : Addr), I[n]? = some c → μ[n]? = some a → CellOk K mg μ I H a c

structure Ext (μ : List Addr) (I : MH) (H : Hp) (μ' : List Addr) (I' : MH) (H' : Hp) : Prop where
  pre : ∀ (n : Nat) (a : Addr), μ[n]? = some a → μ'[n]? = some a
  keep : ∀ a o, H a = some o → ¬ Live μ I a → H' a = some o
  live : ∀ a, Live μ' I' a → Live μ I a ∨ H a = none

section
variable {K : PySem.W.Frag} {mg : Str → Option Value} {μ μ' μ'' : List Addr} {I I' I'' : MH} {H H' H'' : Hp}

theorem Ext.refl : Ext μ I H μ I H := ⟨fun _ _ h => h, fun _ _ h _ => h, fun _ h => .inl h⟩
theorem Ext.trans (a : Ext μ I H μ' I' H') (b : Ext μ' I' H' μ'' I'' H'') : Ext μ I H μ'' I'' H'' := by
  refine ⟨fun n x h => b.pre n x (a.pre n x h), fun x o h nl => ?_, fun x h => ?_⟩
  · refine b.keep x o (a.keep x o h nl) fun l => ?_
    rcases a.live x l with l | l
    · exact nl l
    · rw [h] at l; cases l
  · rcases b.live x h with l | l
    · exact a.live x l
    · cases q : H x with
      | none => exact .inr rfl
      | some o =>
        refine .inl (Classical.byContradiction fun nl => ?_)
        rw [a.keep x o q nl] at l; cases l

theorem CellOk.there {a : Addr} {c : Cell} (h : CellOk K mg μ I H a c) (hl : c.live = true) : ∃ o, H a = some o ∧ (∀ xs, o ≠ .tup xs) ∧ (∀ ob u, o ≠ .frz ob u) := by
  cases c with
  | lst xs => obtain ⟨vs, e, _⟩ := h; exact ⟨_, e, (by intro _ z; cases z), (by intro _ _ z; cases z)⟩
  | dct kvs => obtain ⟨vs, e, _⟩ := h; exact ⟨_, e, (by intro _ z; cases z), (by intro _ _ z; cases z)⟩
  | ins c fs => obtain ⟨C, dx, gs, _, e, _⟩ := h; exact ⟨_, e, (by intro _ z; cases z), (by intro _ _ z; cases z)⟩
  | tab cls m => obtain ⟨_, ps, e, _⟩ := h; exact ⟨_, e, (by intro _ z; cases z), (by intro _ _ z; cases z)⟩
  | dead => cases hl
theorem Ok.notLive (ok : Ok K mg μ I H) {a : Addr} {xs : List V} (h : H a = some (.tup xs)) : ¬ Live μ I a := by
  rintro ⟨n, c, h1, h2, h3⟩
  obtain ⟨o, e, q, _⟩ := (ok.cell n c a h2 h1).there h3
  rw [h] at e; cases e
  exact q xs rfl
theorem Ok.notLiveF (ok : Ok K mg μ I H) {a : Addr} {ob : Obj} {u : HO} (h : H a = some (.frz ob u)) : ¬ Live μ I a := by
  rintro ⟨n, c, h1, h2, h3⟩
  obtain ⟨o, e, _, q⟩ := (ok.cell n c a h2 h1).there h3
  rw [h] at e; cases e
  exact q ob u rfl
theorem Ok.liveSome (ok : Ok K mg μ I H) {a : Addr} (h : Live μ I a) : H a ≠ none := by
  obtain ⟨n, c, h1, h2, h3⟩ := h
  obtain ⟨o, e, _⟩ := (ok.cell n c a h2 h1).there h3
  rw [e]; simp
theorem Ext.sqt (e : Ext μ I H μ' I' H') (ok : Ok K mg μ I H) {a : Addr} {vs : List V} (h : SqT K H a vs) : SqT K H' a vs := by
  rcases h with (h | ⟨o, h⟩) | h
  · exact .inl (.inl (e.keep a _ h (ok.notLive h)))
  · exact .inl (.inr ⟨o, e.keep a _ h (ok.notLiveF h)⟩)
  · exact .inr h
mutual
theorem RepV.ext (e : Ext μ I H μ' I' H') (ok : Ok K mg μ I H) : ∀ (d : D) (v : V), RV K μ I H d v → RV K μ' I' H' d v
  | .non, _, h => h
  | .bl _, _, h => h
  | .int _, _, h => h
  | .str _, _, h => h
  | .tup xs, v, h => by
    obtain ⟨a, vs, h1, h2, h3⟩ := h
    exact ⟨a, vs, h1, e.sqt ok h2, RepVs.ext e ok xs vs h3⟩
  | .lst xs, v, h => by
    obtain ⟨a, vs, h1, h2, h3, h4⟩ := h
    have nn : H a ≠ none := by rw [h2]; simp
    refine ⟨a, vs, h1, e.keep a _ h2 h3, fun l => ?_, RepVs.ext e ok xs vs h4⟩
    rcases e.live a l with l | l
    · exact h3 l
    · exact nn l
  | .scr ns, v, h => by
    obtain ⟨a, h1, h2⟩ := h
    refine ⟨a, h1, ?_⟩
    rcases h2 with (⟨o, h2⟩ | h2) | ⟨h2, h3⟩
    · exact .inl (.inl ⟨o, e.keep a _ h2 (ok.notLiveF h2)⟩)
    · exact .inl (.inr h2)
    · have nn : H a ≠ none := by rw [h2]; simp
      refine .inr ⟨e.keep a _ h2 h3, fun l => ?_⟩
      rcases e.live a l with l | l
      · exact h3 l
      · exact nn l
  | .loc n, v, h => by
    obtain ⟨a, h1, h2⟩ := h
    exact ⟨a, h1, e.pre n a h2⟩
theorem RepVs.ext (e : Ext μ I H μ' I' H') (ok : Ok K mg μ I H) : ∀ (ds : List D) (vs : List V), RVs K μ I H ds vs → RVs K μ' I' H' ds vs
  | [], _, h => h
  | d :: ds, vs, h => by
    obtain ⟨v, r, h1, h2, h3⟩ := h
    exact ⟨v, r, h1, RepV.ext e ok d v h2, RepVs.ext e ok ds r h3⟩
end
theorem RepP.mono {α β : Type} {R : α → β → Prop} {S S' : D → V → Prop} : ∀ {ds : List (α × D)} {vs : List (β × V)}, RepP R S ds vs → (∀ d v, S d v → S' d v) → RepP R S' ds vs
  | [], _, h, _ => h
  | (k, d) :: ds, vs, h, f => by
    obtain ⟨k', v, r, h1, h2, h3, h4⟩ := h
    exact ⟨k', v, r, h1, h2, f _ _ h3, RepP.mono h4 f⟩
theorem RepP.length {α β : Type} {R : α → β → Prop} {S : D → V → Prop} : ∀ {ds : List (α × D)} {vs : List (β × V)}, RepP R S ds vs → ds.length = vs.length
  | [], _, h => by cases h; rfl
  | (k, d) :: ds, vs, h => by
    obtain ⟨k', v, r, rfl, _, _, h4⟩ := h
    simp [RepP.length h4]
theorem RVs.length : ∀ {ds : List D} {vs : List V} {L : Addr → Prop}, RepVs K L μ H ds vs → ds.length = vs.length
  | [], _, _, h => by cases h; rfl
  | d :: ds, vs, _, h => by
    obtain ⟨v, r, rfl, _, h3⟩ := h
    simp [RVs.length h3]
theorem RVs.get {L : Addr → Prop} : ∀ {ds : List D} {vs : List V} {i : Nat} {d : D}, RepVs K L μ H ds vs → ds[i]? = some d → ∃ v, vs[i]? = some v ∧ RepV K L μ H d v
  | [], _, i, d, _, e => by simp at e
  | d :: ds, vs, 0, d', h, e => by
    obtain ⟨v, r, rfl, h2, h3⟩ := h
    simp at e; subst e
    exact ⟨v, rfl, h2⟩
  | d :: ds, vs, i + 1, d', h, e => by
    obtain ⟨v, r, rfl, h2, h3⟩ := h
    exact RVs.get (i := i) h3 (by simpa using e)
theorem RVs.getV {L : Addr → Prop} : ∀ {ds : List D} {vs : List V} {i : Nat} {v : V}, RepVs K L μ H ds vs → vs[i]? = some v → ∃ d, ds[i]? = some d ∧ RepV K L μ H d v
  | [], _, i, d, h, e => by cases h; simp at e
  | d :: ds, vs, 0, v', h, e => by
    obtain ⟨v, r, rfl, h2, h3⟩ := h
    simp at e; subst e
    exact ⟨d, rfl, h2⟩
  | d :: ds, vs, i + 1, v', h, e => by
    obtain ⟨v, r, rfl, h2, h3⟩ := h
    exact RVs.getV (i := i) h3 (by simpa using e)
theorem RVs.append {L : Addr → Prop} : ∀ {ds es : List D} {vs ws : List V}, RepVs K L μ H ds vs → RepVs K L μ H es ws → RepVs K L μ H (ds ++ es) (vs ++ ws)
  | [], _, _, _, h, h' => by cases h; exact h'
  | d :: ds, es, vs, ws, h, h' => by
    obtain ⟨v, r, rfl, h2, h3⟩ := h
    exact ⟨v, r ++ ws, rfl, h2, RVs.append h3 h'⟩
theorem RVs.take {L : Addr → Prop} : ∀ {ds : List D} {vs : List V} (n : Nat), RepVs K L μ H ds vs → RepVs K L μ H (ds.take n) (vs.take n)
  | _, _, 0, _ => by rw [List.take_zero, List.take_zero]; rfl
  | [], _, n + 1, h => by cases h; rfl
  | d :: ds, vs, n + 1, h => by
    obtain ⟨v, r, rfl, h2, h3⟩ := h
    exact ⟨v, r.take n, rfl, h2, RVs.take n h3⟩
theorem RVs.drop {L : Addr → Prop} : ∀ {ds : List D} {vs : List V} (n : Nat), RepVs K L μ H ds vs → RepVs K L μ H (ds.drop n) (vs.drop n)
  | _, _, 0, h => h
  | [], _, n + 1, h => by cases h; rfl
  | d :: ds, vs, n + 1, h => by
    obtain ⟨v, r, rfl, h2, h3⟩ := h
    exact RVs.drop n h3
theorem RVs.set {L : Addr → Prop} {d : D} {v : V} (h0 : RepV K L μ H d v) : ∀ {ds : List D} {vs : List V} (i : Nat), RepVs K L μ H ds vs → RepVs K L μ H (ds.set i d) (vs.set i v)
  | [], _, _, h => by cases h; exact rfl
  | e :: ds, vs, 0, h => by
    obtain ⟨w, r, rfl, h2, h3⟩ := h
    exact ⟨v, r, rfl, h0, h3⟩
  | e :: ds, vs, i + 1, h => by
    obtain ⟨w, r, rfl, h2, h3⟩ := h
    exact ⟨w, r.set i v, rfl, h2, RVs.set h0 i h3⟩

theorem CellOk.ext (e : Ext μ I H μ' I' H') (ok : Ok K mg μ I H) {a : Addr} {c : Cell} (h : CellOk K mg μ I H a c) (ha : ∀ o, H a = some o → H' a = some o) : CellOk K mg μ' I' H' a c := by
  cases c with
  | lst xs => obtain ⟨vs, e1, r⟩ := h; exact ⟨vs, ha _ e1, RepVs.ext e ok _ _ r⟩
  | dct kvs => obtain ⟨vs, e1, r⟩ := h; exact ⟨vs, ha _ e1, r.mono fun d v q => RepV.ext e ok d v q⟩
  | ins c fs => obtain ⟨C, dx, gs, e0, e1, r⟩ := h; exact ⟨C, dx, gs, e0, ha _ e1, r.mono fun d v q => RepV.ext e ok d v q⟩
  | tab cls m => obtain ⟨h1, ps, e1, ht⟩ := h; exact ⟨h1, ps, ha _ e1, ht⟩
  | dead => trivial

/-- all that was tracked is as it was -/
theorem Ext.same (hs : ∀ a o, H a = some o → H' a = some o) : Ext μ I H μ I H' := ⟨fun _ _ h => h, fun a o h _ => hs a o h, fun _ h => .inl h⟩
theorem Ok.same (ok : Ok K mg μ I H) (hs : ∀ a o, H a = some o → H' a = some o) : Ok K mg μ I H' :=
  ⟨ok.len, ok.inj, fun n c a h1 h2 => (ok.cell n c a h1 h2).ext (Ext.same hs) ok (hs a)⟩
theorem same_upd {p : Addr} {o : HO} (h : H p = none) : ∀ a u, H a = some u → upd H p o a = some u := fun a u q => by rw [upd_ne (ne_of_none q h)]; exact q

/-- a new cell -/
theorem Ok.alloc (ok : Ok K mg μ I H) {p : Addr} {c : Cell} (hp : H p = none) (hs : ∀ a o, H a = some o → H' a = some o)
    (hc : Ext μ I H (μ ++ [p]) (I ++ [c]) H' → CellOk K mg (μ ++ [p]) (I ++ [c]) H' p c) : Ext μ I H (μ ++ [p]) (I ++ [c]) H' ∧ Ok K mg (μ ++ [p]) (I ++ [c]) H' := by
  have hl := ok.len
  have nlt : ∀ n a, μ[n]? = some a → n < μ.length := fun n a h => (List.getElem?_eq_some_iff.mp h).1
  have E : Ext μ I H (μ ++ [p]) (I ++ [c]) H' := by
    refine ⟨fun n a h => by rw [List.getElem?_append_left (nlt n a h)]; exact h, fun a o h _ => hs a o h, ?_⟩
    rintro a ⟨n, c', h1, h2, h3⟩
    by_cases hn : n < μ.length
    · rw [List.getElem?_append_left hn] at h1
      rw [List.getElem?_append_left (by omega)] at h2
      exact .inl ⟨n, c', h1, h2, h3⟩
    · rw [List.getElem?_append_right (by omega)] at h1
      have e0 : n - μ.length = 0 := by
        obtain ⟨q, _⟩ := List.getElem?_eq_some_iff.mp h1
        simp at q; omega
      rw [e0] at h1
      simp at h1
      subst h1
      exact .inr hp
  refine ⟨E, by simp [hl], ?_, ?_⟩
  · intro n m a c1 c2 h1 h2 h3 h4 l1 l2
    have key : ∀ (n : Nat) (c1 : Cell), (μ ++ [p])[n]? = some a → (I ++ [c])[n]? = some c1 → c1.live = true → (n < μ.length ∧ μ[n]? = some a ∧ I[n]? = some c1) ∨ (n = μ.length ∧ a = p) := by
      intro n c1 g1 g2 g3
      by_cases hn : n < μ.length
      · rw [List.getElem?_append_left hn] at g1
        rw [List.getElem?_append_left (by omega)] at g2
        exact .inl ⟨hn, g1, g2⟩
      · have e0 : n = μ.length := by
          obtain ⟨q, _⟩ := List.getElem?_eq_some_iff.mp g1
          simp at q; omega
        subst e0
        simp at g1
        exact .inr ⟨rfl, g1.symm⟩
    have old : ∀ (n : Nat) (c1 : Cell), μ[n]? = some a → I[n]? = some c1 → c1.live = true → a ≠ p := by
      intro n c1 g1 g2 g3 z
      exact ok.liveSome ⟨n, c1, g1, g2, g3⟩ (by rw [z]; exact hp)
    rcases key n c1 h1 h3 l1 with ⟨_, a1, a2⟩ | ⟨a1, a2⟩
    · rcases key m c2 h2 h4 l2 with ⟨_, b1, b2⟩ | ⟨b1, b2⟩
      · exact ok.inj n m a c1 c2 a1 b1 a2 b2 l1 l2
      · exact absurd b2 (old n c1 a1 a2 l1)
    · rcases key m c2 h2 h4 l2 with ⟨_, b1, b2⟩ | ⟨b1, b2⟩
      · exact absurd a2 (old m c2 b1 b2 l2)
      · rw [a1, b1]
  · intro n c' a h1 h2
    by_cases hn : n < μ.length
    · rw [List.getElem?_append_left (by omega)] at h1
      rw [List.getElem?_append_left hn] at h2
      exact (ok.cell n c' a h1 h2).ext E ok (hs a)
    · have e0 : n = μ.length := by
        obtain ⟨q, _⟩ := List.getElem?_eq_some_iff.mp h2
        simp at q; omega
      subst e0
      rw [hl, List.getElem?_append_right (Nat.le_refl _)] at h1
      simp at h1 h2
      subst h1 h2
      exact hc E

theorem live_set {n : Nat} {c : Cell} {a b : Addr} (ha : μ[n]? = some a) (h : Live μ (I.set n c) b) (hn : n < I.length) : (b = a ∧ c.live = true) ∨ ∃ (m : Nat) (c' : Cell), m ≠ n ∧ μ[m]? = some b ∧ I[m]? = some c' ∧ c'.live = true := by
  obtain ⟨m, c', h1, h2, h3⟩ := h
  by_cases hm : m = n
  · subst hm
    rw [ha] at h1; cases h1
    rw [List.getElem?_set_self hn] at h2; cases h2
    exact .inl ⟨rfl, h3⟩
  · rw [List.getElem?_set_ne (fun z => hm z.symm)] at h2
    exact .inr ⟨m, c', hm, h1, h2, h3⟩
/-- a cell is written -/
theorem Ok.write (ok : Ok K mg μ I H) {n : Nat} {a : Addr} {c c' : Cell} {o : HO} (ha : μ[n]? = some a) (hc : I[n]? = some c) (hl : c.live = true) (hl' : c'.live = true)
    (hn : Ext μ I H μ (I.set n c') (upd H a o) → CellOk K mg μ (I.set n c') (upd H a o) a c') : Ext μ I H μ (I.set n c') (upd H a o) ∧ Ok K mg μ (I.set n c') (upd H a o) := by
  have hlt : n < I.length := (List.getElem?_eq_some_iff.mp hc).1
  have la : Live μ I a := ⟨n, c, ha, hc, hl⟩
  have E : Ext μ I H μ (I.set n c') (upd H a o) := by
    refine ⟨fun _ _ h => h, fun b u h nl => ?_, fun b h => ?_⟩
    · rw [upd_ne (fun z => nl (by rw [z]; exact la))]
      exact h
    · rcases live_set ha h hlt with ⟨rfl, _⟩ | ⟨m, c1, _, h1, h2, h3⟩
      · exact .inl la
      · exact .inl ⟨m, c1, h1, h2, h3⟩
  refine ⟨E, by simp [ok.len], ?_, ?_⟩
  · intro m k b c1 c2 h1 h2 h3 h4 l1 l2
    have key : ∀ (m : Nat) (c1 : Cell), (I.set n c')[m]? = some c1 → c1.live = true → ∃ c2 : Cell, I[m]? = some c2 ∧ c2.live = true := by
      intro m c1 g1 g2
      by_cases hm : m = n
      · subst hm; exact ⟨c, hc, hl⟩
      · rw [List.getElem?_set_ne (fun z => hm z.symm)] at g1
        exact ⟨c1, g1, g2⟩
    obtain ⟨d1, x1, y1⟩ := key m c1 h3 l1
    obtain ⟨d2, x2, y2⟩ := key k c2 h4 l2
    exact ok.inj m k b d1 d2 h1 h2 x1 x2 y1 y2
  · intro m c1 b h1 h2
    by_cases hm : m = n
    · subst hm
      rw [List.getElem?_set_self hlt] at h1; cases h1
      rw [ha] at h2; cases h2
      exact hn E
    · rw [List.getElem?_set_ne (fun z => hm z.symm)] at h1
      by_cases hlv : c1.live = true
      · refine (ok.cell m c1 b h1 h2).ext E ok fun u q => ?_
        rw [upd_ne (fun z => hm (ok.inj m n b c1 c h2 (by rw [z]; exact ha) h1 hc hlv hl))]
        exact q
      · cases c1 <;> first | trivial | exact absurd rfl hlv
/-- a list's cell becomes data -/
theorem Ok.freeze (ok : Ok K mg μ I H) {n : Nat} {a : Addr} {xs : List D} (ha : μ[n]? = some a) (hc : I[n]? = some (.lst xs)) :
    Ext μ I H μ (I.set n .dead) H ∧ Ok K mg μ (I.set n .dead) H ∧ RV K μ (I.set n .dead) H (.lst xs) (.ref a) := by
  have hlt : n < I.length := (List.getElem?_eq_some_iff.mp hc).1
  have E : Ext μ I H μ (I.set n .dead) H := by
    refine ⟨fun _ _ h => h, fun b u h nl => h, fun b h => ?_⟩
    rcases live_set ha h hlt with ⟨_, z⟩ | ⟨m, c1, _, h1, h2, h3⟩
    · cases z
    · exact .inl ⟨m, c1, h1, h2, h3⟩
  obtain ⟨vs, e1, r⟩ := ok.cell n _ a hc ha
  refine ⟨E, ⟨by simp [ok.len], ?_, ?_⟩, a, vs, rfl, e1, fun l => ?_, RepVs.ext E ok _ _ r⟩
  · intro m k b c1 c2 h1 h2 h3 h4 l1 l2
    have key : ∀ (m : Nat) (c1 : Cell), (I.set n .dead)[m]? = some c1 → c1.live = true → I[m]? = some c1 := by
      intro m c1 g1 g2
      by_cases hm : m = n
      · subst hm
        rw [List.getElem?_set_self hlt] at g1; cases g1; cases g2
      · rw [List.getElem?_set_ne (fun z => hm z.symm)] at g1
        exact g1
    exact ok.inj m k b c1 c2 h1 h2 (key m c1 h3 l1) (key k c2 h4 l2) l1 l2
  · intro m c1 b h1 h2
    by_cases hm : m = n
    · subst hm
      rw [List.getElem?_set_self hlt] at h1; cases h1
      trivial
    · rw [List.getElem?_set_ne (fun z => hm z.symm)] at h1
      exact (ok.cell m c1 b h1 h2).ext E ok fun u q => q
  · rcases live_set ha l hlt with ⟨_, z⟩ | ⟨m, c1, hm, h1, h2, h3⟩
    · cases z
    · exact hm (ok.inj m n a c1 _ h1 ha h2 hc h3 rfl)
end

/-! ### cutting off what a call has left behind -/
mutual
def D.under (n : Nat) : D → Bool
  | .tup xs => unders n xs
  | .lst xs => unders n xs
  | .loc m => decide (m < n)
  | _ => true
def unders (n : Nat) : List D → Bool
  | [] => true
  | d :: ds => d.under n && unders n ds
end
def Cell.under (n : Nat) : Cell → Bool
  | .lst xs => unders n xs
  | .dct kvs => kvs.all fun p => p.2.under n
  | .ins _ fs => fs.all fun p => p.2.under n
  | .tab _ _ => true
  | .dead => true
/-- no cell below n has been given a cell above -/
def Tidy (n : Nat) (I I' : MH) : Prop := ∀ i c, i < n → I'[i]? = some c → I[i]? = some c ∨ c.under n = true
section
variable {K : PySem.W.Frag} {mg : Str → Option Value} {μ μ' : List Addr} {I I' : MH} {H H' : Hp}
mutual
theorem RepV.cut {n : Nat} : ∀ (d : D) (v : V), d.under n = true → RV K μ I H d v → RV K (μ.take n) (I.take n) H d v
  | .non, _, _, h => h
  | .bl _, _, _, h => h
  | .int _, _, _, h => h
  | .str _, _, _, h => h
  | .tup xs, v, b, h => by
    obtain ⟨a, vs, h1, h2, h3⟩ := h
    exact ⟨a, vs, h1, h2, RepVs.cut xs vs b h3⟩
  | .lst xs, v, b, h => by
    obtain ⟨a, vs, h1, h2, h3, h4⟩ := h
    refine ⟨a, vs, h1, h2, fun ⟨m, c, g1, g2, g3⟩ => h3 ⟨m, c, ?_, ?_, g3⟩, RepVs.cut xs vs b h4⟩
    · rw [List.getElem?_take] at g1
      split at g1
      · exact g1
      · cases g1
    · rw [List.getElem?_take] at g2
      split at g2
      · exact g2
      · cases g2
  | .scr ns, _, _, h => by
    obtain ⟨a, h1, h2⟩ := h
    refine ⟨a, h1, ?_⟩
    rcases h2 with h2 | ⟨h2, h3⟩
    · exact .inl h2
    · refine .inr ⟨h2, fun ⟨m, c, g1, g2, g3⟩ => h3 ⟨m, c, ?_, ?_, g3⟩⟩
      · rw [List.getElem?_take] at g1
        split at g1
        · exact g1
        · cases g1
      · rw [List.getElem?_take] at g2
        split at g2
        · exact g2
        · cases g2
  | .loc m, v, b, h => by
    obtain ⟨a, h1, h2⟩ := h
    have b' : m < n := of_decide_eq_true b
    exact ⟨a, h1, by rw [List.getElem?_take_of_lt b']; exact h2⟩
theorem RepVs.cut {n : Nat} : ∀ (ds : List D) (vs : List V), unders n ds = true → RVs K μ I H ds vs → RVs K (μ.take n) (I.take n) H ds vs
  | [], _, _, h => h
  | d :: ds, vs, b, h => by
    obtain ⟨v, r, h1, h2, h3⟩ := h
    have b' := Bool.and_eq_true_iff.mp b
    exact ⟨v, r, h1, RepV.cut d v b'.1 h2, RepVs.cut ds r b'.2 h3⟩
end
mutual
theorem RepV.isBelow {L : Addr → Prop} : ∀ (d : D) (v : V), RepV K L μ H d v → d.under μ.length = true
  | .non, _, _ => rfl
  | .bl _, _, _ => rfl
  | .int _, _, _ => rfl
  | .str _, _, _ => rfl
  | .tup xs, v, h => by
    obtain ⟨a, vs, h1, h2, h3⟩ := h
    exact RepVs.isBelow xs vs h3
  | .lst xs, v, h => by
    obtain ⟨a, vs, h1, h2, h3, h4⟩ := h
    exact RepVs.isBelow xs vs h4
  | .scr ns, _, _ => rfl
  | .loc m, v, h => by
    obtain ⟨a, h1, h2⟩ := h
    exact decide_eq_true (List.getElem?_eq_some_iff.mp h2).1
theorem RepVs.isBelow {L : Addr → Prop} : ∀ (ds : List D) (vs : List V), RepVs K L μ H ds vs → unders μ.length ds = true
  | [], _, _ => rfl
  | d :: ds, vs, h => by
    obtain ⟨v, r, h1, h2, h3⟩ := h
    exact Bool.and_eq_true_iff.mpr ⟨RepV.isBelow d v h2, RepVs.isBelow ds r h3⟩
end
theorem RepP.all {α β : Type} {R : α → β → Prop} {S : D → V → Prop} {p : D → Bool} (f : ∀ d v, S d v → p d = true) : ∀ {ds : List (α × D)} {vs : List (β × V)}, RepP R S ds vs → (ds.all fun q => p q.2) = true
  | [], _, _ => rfl
  | (k, d) :: ds, vs, h => by
    obtain ⟨k', v, r, h1, h2, h3, h4⟩ := h
    rw [List.all_cons, f d v h3, RepP.all f h4]; rfl
theorem RepP.monoB {α β : Type} {R : α → β → Prop} {S S' : D → V → Prop} {p : D → Bool} : ∀ {ds : List (α × D)} {vs : List (β × V)}, RepP R S ds vs → (ds.all fun q => p q.2) = true → (∀ d v, p d = true → S d v → S' d v) → RepP R S' ds vs
  | [], _, h, _, _ => h
  | (k, d) :: ds, vs, h, b, f => by
    obtain ⟨k', v, r, h1, h2, h3, h4⟩ := h
    rw [List.all_cons] at b
    have b' := Bool.and_eq_true_iff.mp b
    exact ⟨k', v, r, h1, h2, f _ _ b'.1 h3, RepP.monoB h4 b'.2 f⟩
theorem CellOk.isBelow {a : Addr} {c : Cell} (h : CellOk K mg μ I H a c) : c.under μ.length = true := by
  cases c with
  | lst xs => obtain ⟨vs, _, r⟩ := h; exact RepVs.isBelow _ _ r
  | dct kvs => obtain ⟨vs, _, r⟩ := h; exact RepP.all (fun d v q => RepV.isBelow d v q) r
  | ins c fs => obtain ⟨C, dx, gs, _, _, r⟩ := h; exact RepP.all (fun d v q => RepV.isBelow d v q) r
  | tab cls m => rfl
  | dead => rfl
theorem CellOk.cut {n : Nat} {a : Addr} {c : Cell} (h : CellOk K mg μ I H a c) (b : c.under n = true) : CellOk K mg (μ.take n) (I.take n) H a c := by
  cases c with
  | lst xs => obtain ⟨vs, e, r⟩ := h; exact ⟨vs, e, RepVs.cut _ _ b r⟩
  | dct kvs => obtain ⟨vs, e, r⟩ := h; exact ⟨vs, e, r.monoB b fun d v p q => RepV.cut d v p q⟩
  | ins c fs => obtain ⟨C, dx, gs, e0, e, r⟩ := h; exact ⟨C, dx, gs, e0, e, r.monoB b fun d v p q => RepV.cut d v p q⟩
  | tab cls m => exact h
  | dead => trivial
/-- the cells that a call made are forgotten -/
theorem Ok.cut (ok : Ok K mg μ I H) (ok' : Ok K mg μ' I' H') (e : Ext μ I H μ' I' H') (t : Tidy I.length I I') :
    Ext μ I H (μ'.take I.length) (I'.take I.length) H' ∧ Ok K mg (μ'.take I.length) (I'.take I.length) H' := by
  have hl := ok.len
  have sub : ∀ a, Live (μ'.take I.length) (I'.take I.length) a → Live μ' I' a := by
    rintro a ⟨m, c, g1, g2, g3⟩
    refine ⟨m, c, ?_, ?_, g3⟩
    · rw [List.getElem?_take] at g1
      split at g1
      · exact g1
      · cases g1
    · rw [List.getElem?_take] at g2
      split at g2
      · exact g2
      · cases g2
  have E : Ext μ I H (μ'.take I.length) (I'.take I.length) H' := by
    refine ⟨fun n a h => ?_, e.keep, fun a h => e.live a (sub a h)⟩
    have := (List.getElem?_eq_some_iff.mp h).1
    rw [List.getElem?_take_of_lt (by omega)]
    exact e.pre n a h
  refine ⟨E, by simp [ok'.len], ?_, ?_⟩
  · intro n m a c c' h1 h2 h3 h4 l1 l2
    have tk : ∀ {α : Type} (l : List α) (n k : Nat) (x : α), (l.take k)[n]? = some x → l[n]? = some x := fun l n k x g => by
      rw [List.getElem?_take] at g
      split at g
      · exact g
      · cases g
    exact ok'.inj n m a c c' (tk _ _ _ _ h1) (tk _ _ _ _ h2) (tk _ _ _ _ h3) (tk _ _ _ _ h4) l1 l2
  · intro n c a h1 h2
    have hn : n < I.length := by
      have := (List.getElem?_eq_some_iff.mp h1).1
      rw [List.length_take] at this
      omega
    rw [List.getElem?_take_of_lt hn] at h1 h2
    have co := ok'.cell n c a h1 h2
    rcases t n c hn h1 with q | q
    · have hb : c.under I.length = true := by
        obtain ⟨a0, ha0⟩ : ∃ a0, μ[n]? = some a0 := ⟨μ[n]'(by omega), List.getElem?_eq_getElem (by omega)⟩
        rw [← hl]
        exact (ok.cell n c a0 q ha0).isBelow
      exact co.cut hb
    · exact co.cut q
end
end MP
/-! MP1: expressions: what a reading by trees is, and each form of expression by it -/
namespace MP
open PySem PySem.Spec L2

def RepR (K : PySem.W.Frag) (μ : List Addr) (I : MH) (H : Hp) (ρ : En) (σ : St) : Prop :=
  ρ.length = σ.length ∧ ∀ (i : Nat) (d : D), ρ[i]? = some (some d) → ∃ v, σ[i]? = some (some v) ∧ RV K μ I H d v
def RepX (K : PySem.W.Frag) (mg : Str → Option Value) (μ : List Addr) (I : MH) (H : Hp) (x : Exn) (cls : Value) (dd : Option Addr) : Prop :=
  ∃ C, mg x.cls = some (.ref C) ∧ cls = .ref C ∧ match x.fld with
    | none => dd = none
    | some (f, d) => ∃ a v, dd = some a ∧ H a = some (.xd [(f, v)]) ∧ RV K μ I H d v
def RPost (K : PySem.W.Frag) (mg : Str → Option Value) (W : Value → Option Addr → Hp → Prop) (μ : List Addr) (I : MH) (H : Hp) {α : Type} (S : List Addr → MH → Hp → α → Prop) : Res α → Prop
  | .ok a I' => ∀ μ' H', Ext μ I H μ' I' H' → Ok K mg μ' I' H' → S μ' I' H' a
  | .err x I' => ∀ μ' H' c dd, Ext μ I H μ' I' H' → Ok K mg μ' I' H' → RepX K mg μ' I' H' x c dd → W c dd H'
  | .stuck => False
abbrev W0 : Value → Option Addr → Hp → Prop := fun _ _ _ => False
section
variable {K : PySem.W.Frag} {mg : Str → Option Value} {μ μ' μ'' : List Addr} {I I' I'' : MH} {H H' H'' : Hp}
theorem RepR.ext (e : Ext μ I H μ' I' H') (ok : Ok K mg μ I H) {ρ : En} {σ : St} (r : RepR K μ I H ρ σ) : RepR K μ' I' H' ρ σ :=
  ⟨r.1, fun i d h => let ⟨v, h1, h2⟩ := r.2 i d h; ⟨v, h1, RepV.ext e ok d v h2⟩⟩
theorem RPost.ext {W : Value → Option Addr → Hp → Prop} {α : Type} {S : List Addr → MH → Hp → α → Prop} (e : Ext μ I H μ' I' H') {r : Res α} (p : RPost K mg W μ I H S r) : RPost K mg W μ' I' H' S r := by
  cases r with
  | ok a I2 => exact fun μ2 H2 e2 ok2 => p μ2 H2 (e.trans e2) ok2
  | err x I2 => exact fun μ2 H2 c dd e2 ok2 => p μ2 H2 c dd (e.trans e2) ok2
  | stuck => exact p
theorem RPost.imp {W W' : Value → Option Addr → Hp → Prop} {α : Type} {S S' : List Addr → MH → Hp → α → Prop} {r : Res α} (p : RPost K mg W μ I H S r)
    (hs : ∀ μ' I' H' a, Ext μ I H μ' I' H' → Ok K mg μ' I' H' → S μ' I' H' a → S' μ' I' H' a) (hw : ∀ c d H', W c d H' → W' c d H') : RPost K mg W' μ I H S' r := by
  cases r with
  | ok a I2 => exact fun μ2 H2 e2 ok2 => hs _ _ _ _ e2 ok2 (p μ2 H2 e2 ok2)
  | err x I2 => exact fun μ2 H2 c dd e2 ok2 rx => hw _ _ _ (p μ2 H2 c dd e2 ok2 rx)
  | stuck => exact p
theorem RPost.bind {W : Value → Option Addr → Hp → Prop} {α β : Type} {S : List Addr → MH → Hp → β → Prop} {r : Res α} {k : α → MH → Res β} (p : RPost K mg W μ I H S (r.bind k)) :
    RPost K mg W μ I H (fun μ' I' H' a => RPost K mg W μ' I' H' S (k a I')) r := by
  cases r with
  | ok a I2 => exact fun μ2 H2 e2 ok2 => RPost.ext (r := k a I2) e2 p
  | err x I2 => exact p
  | stuck => exact p
end

section
variable (X : Cx) (W : WX)
def sE (Q : VK) : List Addr → MH → Hp → D → Prop := fun μ' I' H' d => ∀ v, RV X.K μ' I' H' d v → Q v H'
def tE (f : EF) : TE := fun σ H Q => ∃ μ ρ I, RepR X.K μ I H ρ σ ∧ Ok X.K X.mg μ I H ∧ RPost X.K X.mg (fun c dd H' => W c dd σ H') μ I H (sE X Q) (f ρ I)
def tT (f : TF) : TT := fun σ H Q => ∃ μ ρ I, RepR X.K μ I H ρ σ ∧ Ok X.K X.mg μ I H ∧ RPost X.K X.mg (fun c dd H' => W c dd σ H') μ I H (fun _ _ H' b => Q b H') (f ρ I)
def tA (f : AF) : TA := fun σ H Q => ∃ μ ρ I, RepR X.K μ I H ρ σ ∧ Ok X.K X.mg μ I H ∧ RPost X.K X.mg (fun c dd H' => W c dd σ H') μ I H (fun μ' I' H' ds => ∀ vs, RVs X.K μ' I' H' ds vs → Q vs H') (f ρ I)
abbrev SE (e : Expr) (f : EF) : Prop := PE X e (tE X W f)
abbrev ST (e : Expr) (f : TF) : Prop := PT X e (tT X W f)
abbrev SA (es : List Expr) (f : AF) : Prop := PA X es (tA X W f)
end
theorem pe_weak {X : Cx} {e : Expr} {t t' : TE} (h : PE X e t) (m : ∀ σ H Q, t' σ H Q → t σ H Q) : PE X e t' := ⟨fun pins s σ H Q I q => h.run pins s σ H Q I (m σ H Q q)⟩
theorem pt_weak {X : Cx} {e : Expr} {t t' : TT} (h : PT X e t) (m : ∀ σ H Q, t' σ H Q → t σ H Q) : PT X e t' := ⟨fun pins s σ H Q I q => h.run pins s σ H Q I (m σ H Q q)⟩
theorem pa_weak {X : Cx} {e : List Expr} {t t' : TA} (h : PA X e t) (m : ∀ σ H Q, t' σ H Q → t σ H Q) : PA X e t' := ⟨fun pos pins s σ H Q I q => h.run pos pins s σ H Q I (m σ H Q q)⟩

section
variable {X : Cx} {W : WX} {σ : St} {H : Hp} {μ : List Addr} {ρ : En} {I : MH}
/-- what stands behind the first part -/
theorem then_E {f : EF} {β : Type} {k : D → MH → Res β} {S : List Addr → MH → Hp → β → Prop} {R : VK} (rr : RepR X.K μ I H ρ σ) (ok : Ok X.K X.mg μ I H)
    (p : RPost X.K X.mg (fun c dd H' => W c dd σ H') μ I H S ((f ρ I).bind k))
    (h : ∀ μ1 I1 H1 d v, Ext μ I H μ1 I1 H1 → RepR X.K μ1 I1 H1 ρ σ → Ok X.K X.mg μ1 I1 H1 → RV X.K μ1 I1 H1 d v → RPost X.K X.mg (fun c dd H' => W c dd σ H') μ1 I1 H1 S (k d I1) → R v H1) : tE X W f σ H R :=
  ⟨μ, ρ, I, rr, ok, (RPost.bind p).imp (fun μ1 I1 H1 d e ok1 q v rv => h μ1 I1 H1 d v e (rr.ext e ok) ok1 rv q) fun _ _ _ z => z⟩
theorem then_A {f : AF} {β : Type} {k : List D → MH → Res β} {S : List Addr → MH → Hp → β → Prop} {R : List V → Hp → Prop} (rr : RepR X.K μ I H ρ σ) (ok : Ok X.K X.mg μ I H)
    (p : RPost X.K X.mg (fun c dd H' => W c dd σ H') μ I H S ((f ρ I).bind k))
    (h : ∀ μ1 I1 H1 d v, Ext μ I H μ1 I1 H1 → RepR X.K μ1 I1 H1 ρ σ → Ok X.K X.mg μ1 I1 H1 → RVs X.K μ1 I1 H1 d v → RPost X.K X.mg (fun c dd H' => W c dd σ H') μ1 I1 H1 S (k d I1) → R v H1) : tA X W f σ H R :=
  ⟨μ, ρ, I, rr, ok, (RPost.bind p).imp (fun μ1 I1 H1 d e ok1 q v rv => h μ1 I1 H1 d v e (rr.ext e ok) ok1 rv q) fun _ _ _ z => z⟩
theorem then_T {f : TF} {β : Type} {k : Bool → MH → Res β} {S : List Addr → MH → Hp → β → Prop} {R : Bool → Hp → Prop} (rr : RepR X.K μ I H ρ σ) (ok : Ok X.K X.mg μ I H)
    (p : RPost X.K X.mg (fun c dd H' => W c dd σ H') μ I H S ((f ρ I).bind k))
    (h : ∀ μ1 I1 H1 b, Ext μ I H μ1 I1 H1 → RepR X.K μ1 I1 H1 ρ σ → Ok X.K X.mg μ1 I1 H1 → RPost X.K X.mg (fun c dd H' => W c dd σ H') μ1 I1 H1 S (k b I1) → R b H1) : tT X W f σ H R :=
  ⟨μ, ρ, I, rr, ok, (RPost.bind p).imp (fun μ1 I1 H1 d e ok1 q => h μ1 I1 H1 d e (rr.ext e ok) ok1 q) fun _ _ _ z => z⟩
end

/-! ### operations by values -/
/-- nothing is raised -/
def rS1 (X : Cx) (g : D → MH → Res D) : V → Hp → VK → Prop := fun x H Q => ∃ μ I d, Ok X.K X.mg μ I H ∧ RV X.K μ I H d x ∧ RPost X.K X.mg W0 μ I H (sE X Q) (g d I)
def rS2 (X : Cx) (g : D → D → MH → Res D) : R2 := fun x y H Q => ∃ μ I d e, Ok X.K X.mg μ I H ∧ RV X.K μ I H d x ∧ RV X.K μ I H e y ∧ RPost X.K X.mg W0 μ I H (sE X Q) (g d e I)
def rSn (X : Cx) (g : List D → MH → Res D) : List V → Hp → VK → Prop := fun xs H Q => ∃ μ I ds, Ok X.K X.mg μ I H ∧ RVs X.K μ I H ds xs ∧ RPost X.K X.mg W0 μ I H (sE X Q) (g ds I)
def rSt (X : Cx) (g : D → MH → Res Bool) : V → Hp → (Bool → Hp → Prop) → Prop := fun x H Q => ∃ μ I d, Ok X.K X.mg μ I H ∧ RV X.K μ I H d x ∧ RPost X.K X.mg W0 μ I H (fun _ _ H' b => Q b H') (g d I)
/-- not raised -/
def Res.calm {α : Type} : Res α → Res α
  | .err _ _ => .stuck
  | r => r
theorem RPost.calm {K : PySem.W.Frag} {mg : Str → Option Value} {W : Value → Option Addr → Hp → Prop} {μ : List Addr} {I : MH} {H : Hp} {α : Type} {S : List Addr → MH → Hp → α → Prop} {r : Res α} (p : RPost K mg W μ I H S r.calm) : RPost K mg W0 μ I H S r := by
  cases r with
  | ok a I2 => exact p
  | err x I2 => exact p.elim
  | stuck => exact p

/-- the items of what may be read by place: a list, a tuple, the script -/
def seqOf (I : MH) : D → Option (List D)
  | .lst xs => some xs
  | .tup xs => some xs
  | .scr ns => some (ns.map .int)
  | .loc n => match I[n]? with
    | some (.lst xs) => some xs
    | _ => none
  | _ => none
def lstOf (I : MH) : D → Option (List D)
  | .lst xs => some xs
  | .loc n => match I[n]? with
    | some (.lst xs) => some xs
    | _ => none
  | _ => none
section
variable {K : PySem.W.Frag} {mg : Str → Option Value} {μ : List Addr} {I : MH} {H : Hp}
theorem lstOf_ok (ok : Ok K mg μ I H) {d : D} {v : V} {xs : List D} (r : RV K μ I H d v) (h : lstOf I d = some xs) : ∃ a vs, v = .ref a ∧ H a = some (.lst vs) ∧ RVs K μ I H xs vs := by
  cases d with
  | lst ys =>
    obtain ⟨a, vs, h1, h2, _, h3⟩ := r
    cases h
    exact ⟨a, vs, h1, h2, h3⟩
  | loc n =>
    obtain ⟨a, h1, h2⟩ := r
    unfold lstOf at h
    dsimp only at h
    split at h
    · rename_i ys e
      cases h
      obtain ⟨vs, e1, e2⟩ := ok.cell n _ a e h2
      exact ⟨a, vs, h1, e1, e2⟩
    · cases h
  | _ => cases h
theorem rvs_ints (ns : List Int) : RVs K μ I H (ns.map .int) (ns.map V.int) := by
  induction ns with
  | nil => exact rfl
  | cons n r ih => exact ⟨_, _, rfl, rfl, ih⟩
theorem seqOf_ok (ok : Ok K mg μ I H) {d : D} {v : V} {xs : List D} (r : RV K μ I H d v) (h : seqOf I d = some xs) : ∃ a vs, v = .ref a ∧ (SqL K H a vs ∨ SqT K H a vs) ∧ RVs K μ I H xs vs := by
  cases d with
  | tup ys =>
    obtain ⟨a, vs, h1, h2, h3⟩ := r
    cases h
    exact ⟨a, vs, h1, .inr h2, h3⟩
  | scr ns =>
    obtain ⟨a, h1, h2⟩ := r
    cases h
    exact ⟨a, _, h1, .inl h2.sql, rvs_ints ns⟩
  | lst ys =>
    obtain ⟨a, vs, h1, h2, h3⟩ := lstOf_ok ok r (xs := xs) h
    exact ⟨a, vs, h1, .inl (SqL.of h2), h3⟩
  | loc n =>
    obtain ⟨a, vs, h1, h2, h3⟩ := lstOf_ok ok r (xs := xs) h
    exact ⟨a, vs, h1, .inl (SqL.of h2), h3⟩
  | _ => cases h
end

def ok' {α : Type} (I : MH) (a : α) : Res α := .ok a I
def optR {α : Type} (I : MH) : Option α → Res α
  | some a => .ok a I
  | none => .stuck
def small (n : Nat) : Bool := decide (n ≤ sizeLine)

def addD (x y : D) (I : MH) : Res D :=
  match x, y with
  | .int i, .int j => .ok (.int (i + j)) I
  | .str a, .str b => if small (a.length + b.length) then .ok (.str (a ++ b)) I else .stuck
  | .tup xs, .tup ys => if small (xs.length + ys.length) && !xs.isEmpty then .ok (.tup (xs ++ ys)) I else .stuck
  | x, y => match lstOf I x, lstOf I y with
    | some xs, some ys => if small (xs.length + ys.length) then .ok (.lst (xs ++ ys)) I else .stuck
    | _, _ => .stuck
def subD (x y : D) (I : MH) : Res D :=
  match x, y with
  | .int i, .int j => .ok (.int (i - j)) I
  | _, _ => .stuck
def mulD (x y : D) (I : MH) : Res D :=
  match x, y with
  | .int i, .int j => if decide (-(2 ^ 64) < i ∧ i < 2 ^ 64) || decide (-(2 ^ 64) < j ∧ j < 2 ^ 64) then .ok (.int (i * j)) I else .stuck
  | _, _ => .stuck
def fdivD (x y : D) (I : MH) : Res D :=
  match x, y with
  | .int i, .int j => if decide (0 < j ∧ j < 2 ^ 64) then .ok (.int (i / j)) I else .stuck
  | _, _ => .stuck
def modD (x y : D) (I : MH) : Res D :=
  match x, y with
  | .int i, .int j => if decide (0 < j) then .ok (.int (i % j)) I else .stuck
  | _, _ => .stuck
def powD (x y : D) (I : MH) : Res D :=
  match x, y with
  | .int i, .int j => if decide (0 ≤ j ∧ j ≤ 1000000 ∧ i.natAbs < 2 ^ 64) then .ok (.int (i ^ j.toNat)) I else .stuck
  | _, _ => .stuck
def shlD (x y : D) (I : MH) : Res D :=
  match x, y with
  | .int i, .int j => if decide (0 ≤ j ∧ j ≤ 1000000 ∧ i.natAbs < 2 ^ 64) then .ok (.int (i * 2 ^ j.toNat)) I else .stuck
  | _, _ => .stuck
def cmpI (p : Int → Int → Bool) (x y : D) (I : MH) : Res D :=
  match x, y with
  | .int i, .int j => .ok (.bl (p i j)) I
  | _, _ => .stuck
def binD : Operator → Option (D → D → MH → Res D)
  | .Add => some addD
  | .Sub => some subD
  | .Mult => some mulD
  | .FloorDiv => some fdivD
  | .Mod => some modD
  | .Pow => some powD
  | .LShift => some shlD
  | _ => none

section
variable {X : Cx} {pins : List (Addr × Obj)} {s : Shared} {σ : St} {H : Hp} {Q : VK} {μ : List Addr} {I : MH} {v u : Value}
theorem fin0 {d : D} {w : V} {W : Value → Option Addr → Hp → Prop} (ok : Ok X.K X.mg μ I H) (p : RPost X.K X.mg W μ I H (sE X Q) (.ok d I)) (r : RV X.K μ I H d w) : Q w H := p μ H Ext.refl ok w r
theorem fin1 {d : D} {w : V} {H' : Hp} {W : Value → Option Addr → Hp → Prop} (ok : Ok X.K X.mg μ I H) (p : RPost X.K X.mg W μ I H (sE X Q) (.ok d I)) (hs : ∀ a o, H a = some o → H' a = some o) (r : RV X.K μ I H' d w) : Q w H' := p μ H' (Ext.same hs) (ok.same hs) w r
theorem rvs_same {H' : Hp} (ok : Ok X.K X.mg μ I H) (hs : ∀ a o, H a = some o → H' a = some o) {ds : List D} {vs : List V} (r : RVs X.K μ I H ds vs) : RVs X.K μ I H' ds vs := RepVs.ext (Ext.same hs) ok _ _ r
theorem rv_same {H' : Hp} (ok : Ok X.K X.mg μ I H) (hs : ∀ a o, H a = some o → H' a = some o) {ds : D} {vs : V} (r : RV X.K μ I H ds vs) : RV X.K μ I H' ds vs := RepV.ext (Ext.same hs) ok _ _ r
/-- a new tuple at p -/
theorem rv_tup {p : Addr} {xs : List D} {vs : List V} (ok : Ok X.K X.mg μ I H) (hp : H p = none) (r : RVs X.K μ I H xs vs) : RV X.K μ I (upd H p (.tup vs)) (.tup xs) (.ref p) :=
  ⟨p, vs, rfl, SqT.of upd_same, rvs_same ok (same_upd hp) r⟩
theorem rv_lst {p : Addr} {xs : List D} {vs : List V} (ok : Ok X.K X.mg μ I H) (hp : H p = none) (r : RVs X.K μ I H xs vs) : RV X.K μ I (upd H p (.lst vs)) (.lst xs) (.ref p) :=
  ⟨p, vs, rfl, upd_same, fun l => ok.liveSome l hp, rvs_same ok (same_upd hp) r⟩
end
theorem toS_append (a b : List Nat) : toS a ++ toS b = toS (a ++ b) := by
  show (⟨a.toArray ++ b.toArray⟩ : Str) = ⟨(a ++ b).toArray⟩
  simp
theorem toS_length (a : List Nat) : (toS a).length = a.length := by simp [toS, Str.length]
theorem toS_inj {a b : List Nat} (h : toS a = toS b) : a = b := by
  have e : a.toArray = b.toArray := congrArg Str.cps h
  simpa using e

section
variable {X : Cx}
theorem add_ok : OpR X (binaryOp .Add) (rS2 X addD) := by
  intro pins s σ H x y v u Q Iv rx ry ⟨μ, I, d, e, ok, rd, re, p⟩
  unfold addD at p
  split at p
  · cases rd; cases re
    exact op_add pins s σ H _ _ v u Q Iv rx ry ⟨_, _, rfl, rfl, fin0 ok p rfl⟩
  · split at p
    · rename_i h
      cases rd; cases re
      refine op_add_str pins s σ H _ _ v u Q Iv rx ry ⟨_, _, rfl, rfl, ?_, ?_⟩
      · rw [toS_length, toS_length]; exact of_decide_eq_true h
      · rw [toS_append]; exact fin0 ok p rfl
    · exact p.elim
  · split at p
    · rename_i h
      have h' := Bool.and_eq_true_iff.mp h
      obtain ⟨a, vs, rfl, q1, r1⟩ := rd
      obtain ⟨b, ws, rfl, q2, r2⟩ := re
      have l1 := RVs.length r1
      have l2 := RVs.length r2
      have ne : vs ≠ [] := fun z => by
        rw [z] at l1
        have e0 := List.length_eq_zero_iff.mp l1
        rw [e0] at h'
        exact absurd h'.2 (by simp)
      refine op_catT pins s σ H _ _ v u Q Iv rx ry ⟨a, b, vs, ws, rfl, rfl, q1, q2, ne, ?_, ?_⟩
      · rw [← l1, ← l2]; exact of_decide_eq_true h'.1
      · by_cases hw : ws = []
        · refine ⟨fun _ => ?_, fun z => absurd hw z⟩
          refine fin0 ok p ⟨a, vs, rfl, q1, ?_⟩
          rw [hw] at l2
          have e0 := List.length_eq_zero_iff.mp l2
          rw [e0, List.append_nil]
          exact r1
        · refine ⟨fun z => absurd z hw, fun _ q hq => ?_⟩
          exact fin1 ok p (same_upd hq) (rv_tup ok hq (RVs.append r1 r2))
    · exact p.elim
  · split at p
    · rename_i xs ys e1 e2
      split at p
      · rename_i h
        obtain ⟨a, vs, rfl, q1, r1⟩ := lstOf_ok ok rd e1
        obtain ⟨b, ws, rfl, q2, r2⟩ := lstOf_ok ok re e2
        have l1 := RVs.length r1
        have l2 := RVs.length r2
        refine op_cat pins s σ H _ _ v u Q Iv rx ry ⟨a, b, vs, ws, rfl, rfl, q1, q2, ?_, fun q hq => ?_⟩
        · rw [← l1, ← l2]; exact of_decide_eq_true h
        · exact fin1 ok p (same_upd hq) (rv_lst ok hq (RVs.append r1 r2))
      · exact p.elim
    · exact p.elim
end
end MP
/-! MP2: operations by values -/
namespace MP
open PySem PySem.Spec L2
section
variable {X : Cx}
theorem two_I {op : Value → Value → Sem Value} {g : D → D → MH → Res D} {C : Int → Int → Prop} {k : Int → Int → V} {kd : Int → Int → D}
    (hop : OpR X op (rI C k)) (hk : ∀ K μ I H i j, RV K μ I H (kd i j) (k i j))
    (hg : ∀ x y I, (∃ i j, x = .int i ∧ y = .int j ∧ C i j ∧ g x y I = .ok (kd i j) I) ∨ g x y I = .stuck) : OpR X op (rS2 X g) := by
  intro pins s σ H x y v u Q Iv rx ry ⟨μ, I, d, e, ok, rd, re, p⟩
  rcases hg d e I with ⟨i, j, rfl, rfl, c, h⟩ | h
  · rw [h] at p
    cases rd; cases re
    exact hop pins s σ H _ _ v u Q Iv rx ry ⟨_, _, rfl, rfl, c, fin0 ok p (hk _ _ _ _ _ _)⟩
  · rw [h] at p; exact p.elim
theorem two_I0 {op : Value → Value → Sem Value} {g : D → D → MH → Res D} {k : Int → Int → V} {kd : Int → Int → D}
    (hop : OpR X op (rI0 k)) (hk : ∀ K μ I H i j, RV K μ I H (kd i j) (k i j))
    (hg : ∀ x y I, (∃ i j, x = .int i ∧ y = .int j ∧ g x y I = .ok (kd i j) I) ∨ g x y I = .stuck) : OpR X op (rS2 X g) := by
  intro pins s σ H x y v u Q Iv rx ry ⟨μ, I, d, e, ok, rd, re, p⟩
  rcases hg d e I with ⟨i, j, rfl, rfl, h⟩ | h
  · rw [h] at p
    cases rd; cases re
    exact hop pins s σ H _ _ v u Q Iv rx ry ⟨_, _, rfl, rfl, fin0 ok p (hk _ _ _ _ _ _)⟩
  · rw [h] at p; exact p.elim
theorem sub_ok : OpR X (binaryOp .Sub) (rS2 X subD) := two_I0 (kd := fun i j => .int (i - j)) op_sub (fun _ _ _ _ _ _ => rfl) fun x y I => by
  unfold subD; split
  · exact .inl ⟨_, _, rfl, rfl, rfl⟩
  · exact .inr rfl
theorem mul_ok : OpR X (binaryOp .Mult) (rS2 X mulD) := two_I (kd := fun i j => .int (i * j)) op_mul (fun _ _ _ _ _ _ => rfl) fun x y I => by
  unfold mulD; split
  · split
    · rename_i h
      refine .inl ⟨_, _, rfl, rfl, ?_, rfl⟩
      rcases Bool.or_eq_true_iff.mp h with h | h
      · exact .inl (of_decide_eq_true h)
      · exact .inr (of_decide_eq_true h)
    · exact .inr rfl
  · exact .inr rfl
theorem fdiv_ok : OpR X (binaryOp .FloorDiv) (rS2 X fdivD) := two_I (kd := fun i j => .int (i / j)) op_fdivW (fun _ _ _ _ _ _ => rfl) fun x y I => by
  unfold fdivD; split
  · split
    · rename_i h
      have h' := of_decide_eq_true h
      exact .inl ⟨_, _, rfl, rfl, wide_div (b := 64) h'.1 (by omega) (by decide) (by decide), rfl⟩
    · exact .inr rfl
  · exact .inr rfl
theorem mod_ok : OpR X (binaryOp .Mod) (rS2 X modD) := two_I (kd := fun i j => .int (i % j)) op_mod (fun _ _ _ _ _ _ => rfl) fun x y I => by
  unfold modD; split
  · split
    · rename_i h
      exact .inl ⟨_, _, rfl, rfl, of_decide_eq_true h, rfl⟩
    · exact .inr rfl
  · exact .inr rfl
theorem pow_ok : OpR X (binaryOp .Pow) (rS2 X powD) := two_I (kd := fun i j => .int (i ^ j.toNat)) op_pow (fun _ _ _ _ _ _ => rfl) fun x y I => by
  unfold powD; split
  · split
    · rename_i h
      have h' := of_decide_eq_true h
      exact .inl ⟨_, _, rfl, rfl, ⟨h'.1, h'.2.1, h'.2.2⟩, rfl⟩
    · exact .inr rfl
  · exact .inr rfl
theorem shl_ok : OpR X (binaryOp .LShift) (rS2 X shlD) := two_I (kd := fun i j => .int (i * 2 ^ j.toNat)) op_shl (fun _ _ _ _ _ _ => rfl) fun x y I => by
  unfold shlD; split
  · split
    · rename_i h
      have h' := of_decide_eq_true h
      exact .inl ⟨_, _, rfl, rfl, ⟨h'.1, h'.2.1, h'.2.2⟩, rfl⟩
    · exact .inr rfl
  · exact .inr rfl
theorem bin_ok {op : Operator} {g : D → D → MH → Res D} (h : binD op = some g) : OpR X (binaryOp op) (rS2 X g) := by
  cases op <;> first
    | (cases h; exact add_ok) | (cases h; exact sub_ok) | (cases h; exact mul_ok) | (cases h; exact fdiv_ok) | (cases h; exact mod_ok) | (cases h; exact pow_ok) | (cases h; exact shl_ok)
    | cases h
end

/-! ### equality -/
mutual
def eqvD : D → D → Bool
  | .non, .non => true
  | .bl a, .bl b => a == b
  | .bl a, .int j => (if a then 1 else 0) == j
  | .int i, .bl b => i == (if b then 1 else 0)
  | .int i, .int j => i == j
  | .str x, .str y => x == y
  | .lst xs, .lst ys => eqvDs xs ys
  | .tup xs, .tup ys => eqvDs xs ys
  | _, _ => false
def eqvDs : List D → List D → Bool
  | [], [] => true
  | x :: xs, y :: ys => eqvD x y && eqvDs xs ys
  | _, _ => false
end
mutual
def shp : Nat → D → Bool
  | _, .str s => PyData.strOk (toS s)
  | n + 1, .tup xs => shps n xs
  | n + 1, .lst xs => shps n xs
  | _, .non => true
  | _, .bl _ => true
  | _, .int _ => true
  | _, _ => false
def shps : Nat → List D → Bool
  | _, [] => true
  | n, x :: xs => shp n x && shps n xs
end
mutual
def toPy : D → PyData
  | .non => .none
  | .bl b => .bool b
  | .int i => .int i
  | .str s => .str (toS s)
  | .tup xs => .tuple (toPys xs)
  | .lst xs => .list (toPys xs)
  | .scr _ => .dict []
  | .loc _ => .dict []
def toPys : List D → List PyData
  | [] => []
  | x :: xs => toPy x :: toPys xs
end
mutual
theorem shp_ok : ∀ (n : Nat) (d : D), shp n d = true → (toPy d).canLay0 = true ∧ (toPy d).depth ≤ n
  | n, .non, _ => by simp [toPy, PyData.canLay0, PyData.depth]
  | n, .bl _, _ => by simp [toPy, PyData.canLay0, PyData.depth]
  | n, .int _, _ => by simp [toPy, PyData.canLay0, PyData.depth]
  | n, .str s, h => by
    refine ⟨?_, by simp [toPy, PyData.depth]⟩
    show PyData.canLay0 (.str (toS s)) = true
    unfold PyData.canLay0
    cases n <;> exact h
  | 0, .tup xs, h => by cases h
  | n + 1, .tup xs, h => by
    have q := shps_ok n xs h
    exact ⟨by show PyData.canLay0 (.tuple (toPys xs)) = true; unfold PyData.canLay0; exact q.1, by show PyData.depth (.tuple (toPys xs)) ≤ _; unfold PyData.depth; omega⟩
  | 0, .lst xs, h => by cases h
  | n + 1, .lst xs, h => by
    have q := shps_ok n xs h
    exact ⟨by show PyData.canLay0 (.list (toPys xs)) = true; unfold PyData.canLay0; exact q.1, by show PyData.depth (.list (toPys xs)) ≤ _; unfold PyData.depth; omega⟩
  | n, .scr _, h => by cases n <;> cases h
  | n, .loc _, h => by cases n <;> cases h
theorem shps_ok : ∀ (n : Nat) (ds : List D), shps n ds = true → PyData.canLayAll0 (toPys ds) = true ∧ PyData.depthAll (toPys ds) ≤ n
  | n, [], _ => ⟨by unfold toPys PyData.canLayAll0; rfl, by unfold toPys PyData.depthAll; omega⟩
  | n, d :: ds, h => by
    have h' := Bool.and_eq_true_iff.mp (show (shp n d && shps n ds) = true by cases n <;> exact h)
    have q1 := shp_ok n d h'.1
    have q2 := shps_ok n ds h'.2
    exact ⟨by unfold toPys PyData.canLayAll0; rw [q1.1, q2.1]; rfl, by unfold toPys PyData.depthAll; omega⟩
end

theorem toS_beq (a b : List Nat) : (toS a == toS b) = (a == b) := by
  by_cases h : a = b
  · subst h; simp
  · have : ¬ toS a = toS b := fun z => h (toS_inj z)
    rw [beq_eq_false_iff_ne.mpr h, beq_eq_false_iff_ne.mpr this]
mutual
theorem eqv_toPy : ∀ (n m : Nat) (x y : D), shp n x = true → shp m y = true → PyData.eqv (toPy x) (toPy y) = eqvD x y
  | _, _, .non, y, _, _ => by cases y <;> simp [toPy, PyData.eqv, eqvD] <;> rfl
  | _, _, .bl _, y, _, _ => by cases y <;> simp [toPy, PyData.eqv, eqvD] <;> rfl
  | _, _, .int _, y, _, _ => by cases y <;> simp [toPy, PyData.eqv, eqvD] <;> rfl
  | _, _, .str a, y, _, _ => by
    cases y with
    | str b => show PyData.eqv (.str (toS a)) (.str (toS b)) = eqvD (.str a) (.str b); unfold PyData.eqv eqvD; exact toS_beq a b
    | _ => simp [toPy, PyData.eqv, eqvD] <;> rfl
  | n, m, .tup xs, y, h1, h2 => by
    cases n with
    | zero => cases h1
    | succ n =>
      cases y with
      | tup ys =>
        cases m with
        | zero => cases h2
        | succ m =>
          show PyData.eqv (.tuple (toPys xs)) (.tuple (toPys ys)) = eqvD (.tup xs) (.tup ys)
          unfold PyData.eqv eqvD
          exact eqv_toPys n m xs ys h1 h2
      | _ => simp [toPy, PyData.eqv, eqvD] <;> rfl
  | n, m, .lst xs, y, h1, h2 => by
    cases n with
    | zero => cases h1
    | succ n =>
      cases y with
      | lst ys =>
        cases m with
        | zero => cases h2
        | succ m =>
          show PyData.eqv (.list (toPys xs)) (.list (toPys ys)) = eqvD (.lst xs) (.lst ys)
          unfold PyData.eqv eqvD
          exact eqv_toPys n m xs ys h1 h2
      | _ => simp [toPy, PyData.eqv, eqvD] <;> rfl
  | n, _, .scr _, _, h, _ => by cases n <;> cases h
  | n, _, .loc _, _, h, _ => by cases n <;> cases h
theorem eqv_toPys : ∀ (n m : Nat) (xs ys : List D), shps n xs = true → shps m ys = true → PyData.eqvAll (toPys xs) (toPys ys) = eqvDs xs ys
  | _, _, [], [], _, _ => by simp [toPys, PyData.eqvAll, eqvDs]
  | _, _, [], _ :: _, _, _ => by simp [toPys, PyData.eqvAll, eqvDs]
  | _, _, _ :: _, [], _, _ => by simp [toPys, PyData.eqvAll, eqvDs]
  | n, m, x :: xs, y :: ys, h1, h2 => by
    have a := Bool.and_eq_true_iff.mp (show (shp n x && shps n xs) = true by cases n <;> exact h1)
    have b := Bool.and_eq_true_iff.mp (show (shp m y && shps m ys) = true by cases m <;> exact h2)
    show PyData.eqvAll (toPy x :: toPys xs) (toPy y :: toPys ys) = eqvDs (x :: xs) (y :: ys)
    unfold PyData.eqvAll eqvDs
    rw [eqv_toPy n m x y a.1 b.1, eqv_toPys n m xs ys a.2 b.2]
end
mutual
theorem rep_dp {K : PySem.W.Frag} {L : Addr → Prop} {μ : List Addr} {H : Hp} : ∀ (n : Nat) (d : D) (v : V), shp n d = true → RepV K L μ H d v → Dp K H v (toPy d)
  | _, .non, _, _, r => by cases r; exact .non
  | _, .bl b, _, _, r => by cases r; exact .bl b
  | _, .int i, _, _, r => by cases r; exact .int i
  | _, .str s, _, _, r => by cases r; exact .str _
  | n, .tup xs, v, h, r => by
    obtain ⟨a, vs, rfl, q, rs⟩ := r
    cases n with
    | zero => cases h
    | succ n => exact .tup q (reps_dp n xs vs h rs)
  | n, .lst xs, v, h, r => by
    obtain ⟨a, vs, rfl, q, _, rs⟩ := r
    cases n with
    | zero => cases h
    | succ n => exact .lst (SqL.of q) (reps_dp n xs vs h rs)
  | n, .scr _, _, h, _ => by cases n <;> cases h
  | n, .loc _, _, h, _ => by cases n <;> cases h
theorem reps_dp {K : PySem.W.Frag} {L : Addr → Prop} {μ : List Addr} {H : Hp} : ∀ (n : Nat) (ds : List D) (vs : List V), shps n ds = true → RepVs K L μ H ds vs → DpAll K H vs (toPys ds)
  | _, [], _, _, r => by cases r; exact .nil
  | n, d :: ds, vs, h, r => by
    obtain ⟨v, t, rfl, r1, r2⟩ := r
    have a := Bool.and_eq_true_iff.mp (show (shp n d && shps n ds) = true by cases n <;> exact h)
    exact .cons (rep_dp n d v a.1 r1) (reps_dp n ds t a.2 r2)
end
/-- the pairs that == tells apart without looking inside -/
def scalD : D → D → Bool
  | .bl _, .int _ => false
  | .int _, .bl _ => false
  | .non, .non => true | .non, .int _ => true | .int _, .non => true | .non, .bl _ => true | .bl _, .non => true | .non, .str _ => true | .str _, .non => true
  | .int _, .int _ => true | .bl _, .bl _ => true | .str _, .str _ => true
  | .int _, .str _ => true | .str _, .int _ => true | .bl _, .str _ => true | .str _, .bl _ => true
  | _, _ => false
def cmpable (x y : D) : Bool := scalD x y || (shp 64 x && shp 64 y)
def eqD (x y : D) (I : MH) : Res D := if cmpable x y then .ok (.bl (eqvD x y)) I else .stuck
def neD (x y : D) (I : MH) : Res D := if cmpable x y then .ok (.bl (!eqvD x y)) I else .stuck
section
variable {X : Cx} {K : PySem.W.Frag} {μ : List Addr} {I : MH} {H : Hp}
theorem scal_rep {d e : D} {x y : V} (h : scalD d e = true) (rd : RV K μ I H d x) (re : RV K μ I H e y) : scal x y = true ∧ decide (x = y) = eqvD d e := by
  cases d <;> cases e <;> first
    | (cases h; done)
    | (cases rd; cases re; refine ⟨rfl, ?_⟩; unfold eqvD; exact dec_bl)
    | (cases rd; cases re; refine ⟨rfl, ?_⟩; unfold eqvD; exact dec_int)
    | (cases rd; cases re; refine ⟨rfl, ?_⟩; unfold eqvD; exact dec_str.trans (toS_beq _ _))
    | (cases rd; cases re; refine ⟨rfl, ?_⟩; simp [eqvD]; done)
theorem eq_ok (hu : X.A.units + 64 < cLine) : OpR X (compareOp .Eq) (rS2 X eqD) := by
  intro pins s σ H x y v u Q Iv rx ry ⟨μ, I, d, e, ok, rd, re, p⟩
  unfold eqD at p
  split at p
  · rename_i h
    unfold cmpable at h
    cases hsc : scalD d e with
    | true =>
      obtain ⟨h1, h2⟩ := scal_rep hsc rd re
      refine op_eq pins s σ H x y v u Q Iv rx ry ⟨h1, ?_⟩
      rw [h2]
      exact fin0 ok p rfl
    | false =>
      rw [hsc, Bool.false_or] at h
      have h' := Bool.and_eq_true_iff.mp h
      have a := shp_ok 64 d h'.1
      have b := shp_ok 64 e h'.2
      refine op_eqD hu pins s σ H x y v u Q Iv rx ry ⟨toPy d, toPy e, rep_dp 64 d x h'.1 rd, rep_dp 64 e y h'.2 re, ?_, ?_, ?_⟩
      · exact Bool.and_eq_true_iff.mpr ⟨a.1, decide_eq_true a.2⟩
      · exact Bool.and_eq_true_iff.mpr ⟨b.1, decide_eq_true b.2⟩
      · rw [eqv_toPy 64 64 d e h'.1 h'.2]
        exact fin0 ok p rfl
  · exact p.elim
theorem ne_ok (hu : X.A.units + 64 < cLine) : OpR X (compareOp .NotEq) (rS2 X neD) := by
  intro pins s σ H x y v u Q Iv rx ry ⟨μ, I, d, e, ok, rd, re, p⟩
  unfold neD at p
  split at p
  · rename_i h
    unfold cmpable at h
    cases hsc : scalD d e with
    | true =>
      obtain ⟨h1, h2⟩ := scal_rep hsc rd re
      refine op_ne pins s σ H x y v u Q Iv rx ry ⟨h1, ?_⟩
      rw [h2]
      exact fin0 ok p rfl
    | false =>
      rw [hsc, Bool.false_or] at h
      have h' := Bool.and_eq_true_iff.mp h
      have a := shp_ok 64 d h'.1
      have b := shp_ok 64 e h'.2
      refine op_neD hu pins s σ H x y v u Q Iv rx ry ⟨toPy d, toPy e, rep_dp 64 d x h'.1 rd, rep_dp 64 e y h'.2 re, ?_, ?_, ?_⟩
      · exact Bool.and_eq_true_iff.mpr ⟨a.1, decide_eq_true a.2⟩
      · exact Bool.and_eq_true_iff.mpr ⟨b.1, decide_eq_true b.2⟩
      · rw [eqv_toPy 64 64 d e h'.1 h'.2]
        exact fin0 ok p rfl
  · exact p.elim
end
/-! ### the other comparisons -/
def isFlat : D → Bool
  | .non => true | .bl _ => true | .int _ => true | .str _ => true
  | _ => false
def inB (neg : Bool) (x y : D) (I : MH) : Res D :=
  match x, y with
  | .str [c], .str s => .ok (.bl (if neg then !decide (c ∈ s) else decide (c ∈ s))) I
  | x, y => match seqOf I y with
    | some ys => if isFlat x && ys.all isFlat then .ok (.bl (if neg then !(ys.any fun y => eqvD y x) else ys.any fun y => eqvD y x)) I else .stuck
    | none => .stuck
def isB (neg : Bool) (x y : D) (I : MH) : Res D :=
  match y with
  | .non => match x with
    | .non => .ok (.bl (!neg)) I
    | _ => .ok (.bl neg) I
  | _ => .stuck
def ltS (x y : D) (I : MH) : Res D :=
  match x, y with
  | .int i, .int j => .ok (.bl (decide (i < j))) I
  | .str a, .str b => .ok (.bl (decide (a < b))) I
  | _, _ => .stuck
def leS (x y : D) (I : MH) : Res D :=
  match x, y with
  | .int i, .int j => .ok (.bl (decide (i ≤ j))) I
  | .str a, .str b => .ok (.bl (!decide (b < a))) I
  | _, _ => .stuck
def cmpD : CmpOp → Option (D → D → MH → Res D)
  | .Eq => some eqD
  | .NotEq => some neD
  | .Lt => some ltS
  | .LtE => some leS
  | .Gt => some (cmpI fun i j => decide (j < i))
  | .GtE => some (cmpI fun i j => decide (j ≤ i))
  | .Is => some (isB false)
  | .IsNot => some (isB true)
  | .In => some (inB false)
  | .NotIn => some (inB true)
section
variable {X : Cx} {K : PySem.W.Frag} {μ : List Addr} {I : MH} {H : Hp}
theorem flat_rep {d : D} {v : V} (h : isFlat d = true) (r : RV K μ I H d v) : flatV v = true := by
  cases d <;> first | (cases h; done) | (cases r; rfl)
theorem flat_reps : ∀ {ds : List D} {vs : List V}, ds.all isFlat = true → RVs K μ I H ds vs → vs.all flatV = true
  | [], _, _, r => by cases r; rfl
  | d :: ds, vs, h, r => by
    obtain ⟨v, t, rfl, r1, r2⟩ := r
    rw [List.all_cons] at h ⊢
    have h' := Bool.and_eq_true_iff.mp h
    rw [flat_rep h'.1 r1, flat_reps h'.2 r2]; rfl
theorem flat_eq {d e : D} {x y : V} (h1 : isFlat d = true) (h2 : isFlat e = true) (rd : RV K μ I H d x) (re : RV K μ I H e y) : eqV x y = eqvD d e := by
  cases d <;> cases e <;> first
    | (cases h1; done)
    | (cases h2; done)
    | (cases rd; cases re; unfold eqV eqvD; rfl)
    | (cases rd; cases re; unfold eqV eqvD; exact toS_beq _ _)
theorem flat_any {d : D} {x : V} (h1 : isFlat d = true) (rd : RV K μ I H d x) : ∀ {ds : List D} {vs : List V}, ds.all isFlat = true → RVs K μ I H ds vs → (vs.any fun y => eqV y x) = ds.any fun y => eqvD y d
  | [], _, _, r => by cases r; rfl
  | e :: ds, vs, h, r => by
    obtain ⟨v, t, rfl, r1, r2⟩ := r
    rw [List.all_cons] at h
    have h' := Bool.and_eq_true_iff.mp h
    rw [List.any_cons, List.any_cons, flat_eq h'.1 h1 r1 rd, flat_any h1 rd h'.2 r2]
theorem in_ok : OpR X (compareOp .In) (rS2 X (inB false)) := by
  intro pins s σ H x y v u Q Iv rx ry ⟨μ, I, d, e, ok, rd, re, p⟩
  unfold inB at p
  split at p
  · cases rd; cases re
    exact op_in_sign pins s σ H _ _ v u Q Iv rx ry ⟨_, _, rfl, rfl, fin0 ok p rfl⟩
  · split at p
    · rename_i ys e1
      split at p
      · rename_i h
        have h' := Bool.and_eq_true_iff.mp h
        obtain ⟨a, vs, rfl, q1, r1⟩ := seqOf_ok ok re e1
        refine op_in_seq pins s σ H _ _ v u Q Iv rx ry ⟨a, vs, rfl, q1, flat_rep h'.1 rd, flat_reps h'.2 r1, fin0 ok p ?_⟩
        show V.bl (inV x vs) = V.bl (ys.any fun y => eqvD y d)
        exact congrArg V.bl (flat_any h'.1 rd h'.2 r1)
      · exact p.elim
    · exact p.elim
theorem notIn_ok : OpR X (compareOp .NotIn) (rS2 X (inB true)) := by
  intro pins s σ H x y v u Q Iv rx ry ⟨μ, I, d, e, ok, rd, re, p⟩
  unfold inB at p
  split at p
  · cases rd; cases re
    exact op_notIn_sign pins s σ H _ _ v u Q Iv rx ry ⟨_, _, rfl, rfl, fin0 ok p rfl⟩
  · split at p
    · rename_i ys e1
      split at p
      · rename_i h
        have h' := Bool.and_eq_true_iff.mp h
        obtain ⟨a, vs, rfl, q1, r1⟩ := seqOf_ok ok re e1
        refine op_notIn_seq pins s σ H _ _ v u Q Iv rx ry ⟨a, vs, rfl, q1, flat_rep h'.1 rd, flat_reps h'.2 r1, fin0 ok p ?_⟩
        show V.bl (!inV x vs) = V.bl (!(ys.any fun y => eqvD y d))
        exact congrArg (fun b => V.bl (!b)) (flat_any h'.1 rd h'.2 r1)
      · exact p.elim
    · exact p.elim
theorem isN_ok : OpR X (compareOp .Is) (rS2 X (isB false)) := by
  intro pins s σ H x y v u Q Iv rx ry ⟨μ, I, d, e, ok, rd, re, p⟩
  unfold isB at p
  split at p
  · cases re
    refine op_isN pins s σ H _ _ v u Q Iv rx ry ⟨rfl, ?_⟩
    cases d with
    | non => cases rd; exact fin0 ok p rfl
    | bl _ => cases rd; exact fin0 ok p rfl
    | int _ => cases rd; exact fin0 ok p rfl
    | str _ => cases rd; exact fin0 ok p rfl
    | tup _ => obtain ⟨_, _, rfl, _⟩ := rd; exact fin0 ok p rfl
    | lst _ => obtain ⟨_, _, rfl, _⟩ := rd; exact fin0 ok p rfl
    | scr _ => obtain ⟨_, rfl, _⟩ := rd; exact fin0 ok p rfl
    | loc _ => obtain ⟨_, rfl, _⟩ := rd; exact fin0 ok p rfl
  · exact p.elim
theorem isNot_ok : OpR X (compareOp .IsNot) (rS2 X (isB true)) := by
  intro pins s σ H x y v u Q Iv rx ry ⟨μ, I, d, e, ok, rd, re, p⟩
  unfold isB at p
  split at p
  · cases re
    refine op_notN pins s σ H _ _ v u Q Iv rx ry ⟨rfl, ?_⟩
    cases d with
    | non => cases rd; exact fin0 ok p rfl
    | bl _ => cases rd; exact fin0 ok p rfl
    | int _ => cases rd; exact fin0 ok p rfl
    | str _ => cases rd; exact fin0 ok p rfl
    | tup _ => obtain ⟨_, _, rfl, _⟩ := rd; exact fin0 ok p rfl
    | lst _ => obtain ⟨_, _, rfl, _⟩ := rd; exact fin0 ok p rfl
    | scr _ => obtain ⟨_, rfl, _⟩ := rd; exact fin0 ok p rfl
    | loc _ => obtain ⟨_, rfl, _⟩ := rd; exact fin0 ok p rfl
  · exact p.elim
theorem lt_ok : OpR X (compareOp .Lt) (rS2 X ltS) := by
  intro pins s σ H x y v u Q Iv rx ry ⟨μ, I, d, e, ok, rd, re, p⟩
  unfold ltS at p
  split at p
  · cases rd; cases re
    exact op_lt pins s σ H _ _ v u Q Iv rx ry ⟨_, _, rfl, rfl, fin0 ok p rfl⟩
  · cases rd; cases re
    exact op_lt_str pins s σ H _ _ v u Q Iv rx ry ⟨_, _, rfl, rfl, fin0 ok p rfl⟩
  · exact p.elim
theorem le_ok : OpR X (compareOp .LtE) (rS2 X leS) := by
  intro pins s σ H x y v u Q Iv rx ry ⟨μ, I, d, e, ok, rd, re, p⟩
  unfold leS at p
  split at p
  · cases rd; cases re
    exact op_le pins s σ H _ _ v u Q Iv rx ry ⟨_, _, rfl, rfl, fin0 ok p rfl⟩
  · cases rd; cases re
    exact op_le_str pins s σ H _ _ v u Q Iv rx ry ⟨_, _, rfl, rfl, fin0 ok p rfl⟩
  · exact p.elim
theorem cmpI_hg (q : Int → Int → Bool) : ∀ x y I, (∃ i j, x = .int i ∧ y = .int j ∧ cmpI q x y I = .ok (.bl (q i j)) I) ∨ cmpI q x y I = .stuck := fun x y I => by
  unfold cmpI; split
  · exact .inl ⟨_, _, rfl, rfl, rfl⟩
  · exact .inr rfl
theorem cmp_ok {op : CmpOp} {g : D → D → MH → Res D} (hu : X.A.units + 64 < cLine) (h : cmpD op = some g) : OpR X (compareOp op) (rS2 X g) := by
  cases op with
  | Eq => cases h; exact eq_ok hu
  | NotEq => cases h; exact ne_ok hu
  | Lt => cases h; exact lt_ok
  | LtE => cases h; exact le_ok
  | Gt => cases h; exact two_I0 (kd := fun i j => .bl (decide (j < i))) op_gt (fun _ _ _ _ _ _ => rfl) (cmpI_hg _)
  | GtE => cases h; exact two_I0 (kd := fun i j => .bl (decide (j ≤ i))) op_ge (fun _ _ _ _ _ _ => rfl) (cmpI_hg _)
  | Is => cases h; exact isN_ok
  | IsNot => cases h; exact isNot_ok
  | In => cases h; exact in_ok
  | NotIn => cases h; exact notIn_ok
end
end MP
/-! MP3: places, slices, built-in functions and methods, by values -/
namespace MP
open PySem PySem.Spec L2

/-! ### text * int (two or more turns of a text that is not empty) -/
theorem fold_rep (xs : List Nat) : ∀ (k : Nat) (acc : Array Nat), (List.replicate k xs.toArray).foldl (· ++ ·) acc = acc ++ ((List.replicate k xs).flatten).toArray
  | 0, acc => by simp
  | k + 1, acc => by
    rw [List.replicate_succ, List.foldl_cons, fold_rep xs k, List.replicate_succ, List.flatten_cons]
    simp [Array.append_assoc]
def repS (s : List Nat) (n : Int) : List Nat := (List.replicate n.toNat s).flatten
def mulSD (x y : D) (I : MH) : Res D :=
  match x, y with
  | .str s, .int n => if decide (2 ≤ n ∧ n < 2 ^ 63) && decide (1 ≤ s.length) && small (s.length * n.toNat) then .ok (.str (repS s n)) I else .stuck
  | .int i, .int j => mulD (.int i) (.int j) I
  | x, .int n => match lstOf I x with
    | some xs => if decide (0 ≤ n ∧ n < 2 ^ 63) && small (xs.length * n.toNat) then .ok (.lst (List.replicate n.toNat xs).flatten) I else .stuck
    | none => .stuck
  | _, _ => .stuck
section
variable {K : PySem.W.Frag} {mg : Str → Option Value} {μ : List Addr} {I : MH} {H : Hp} {L : Addr → Prop}
theorem RVs.rep {ds : List D} {vs : List V} (r : RepVs K L μ H ds vs) : ∀ k : Nat, RepVs K L μ H (List.replicate k ds).flatten (List.replicate k vs).flatten
  | 0 => rfl
  | k + 1 => by
    rw [List.replicate_succ, List.flatten_cons, List.replicate_succ, List.flatten_cons]
    exact RVs.append r (RVs.rep r k)
end
theorem mulS_ok {X : Cx} : OpR X (binaryOp .Mult) (rS2 X mulSD) := by
  intro pins s σ H x y v u Q Iv rx ry ⟨μ, I, d, e, ok, rd, re, p⟩
  unfold mulSD at p
  split at p
  · split at p
    · rename_i z n h
      have h1 := Bool.and_eq_true_iff.mp h
      have h2 := Bool.and_eq_true_iff.mp h1.1
      have hn := of_decide_eq_true h2.1
      have hz := of_decide_eq_true h2.2
      have hs : z.length * n.toNat ≤ sizeLine := of_decide_eq_true h1.2
      cases rd; cases re
      obtain ⟨t, rfl⟩ := rx
      obtain ⟨t', rfl⟩ := ry
      have e1 : (n == 1) = false := beq_eq_false_iff_ne.mpr (by omega)
      have e2 : ((toS z).length == 0) = false := beq_eq_false_iff_ne.mpr (by rw [toS_length]; omega)
      have e3 : sizeLine = 16777216 := sizeLine_eq
      have hle : z.length * n.toNat ≤ 16777216 := by omega
      refine PySem.P.mul_str ?_ (fun _ _ => ?_) (fun _ _ => ?_) ?_
      · rw [decide_eq_false (by omega : ¬ n < -(2 ^ 63 : Int)), decide_eq_false (by omega : ¬ n ≥ 2 ^ 63)]; rfl
      · rw [toS_length]
        intro hgt
        have hz2 : (z.length : Int) ≤ (2 ^ 63 - 1) / n := by
          rw [Int.le_ediv_iff_mul_le (by omega)]
          have : ((z.length * n.toNat : Nat) : Int) = (z.length : Int) * n := by rw [Int.natCast_mul, Int.toNat_of_nonneg (by omega)]
          omega
        omega
      · rw [toS_length]
        show decide (z.length * n.toNat > sizeLine) = false
        exact decide_eq_false (by omega)
      · rw [if_neg (by omega), e1, e2]
        show Made.post (Made.str ⟨(List.replicate n.toNat (toS z).cps).foldl (· ++ ·) #[]⟩) _ _
        have ef : (⟨(List.replicate n.toNat (toS z).cps).foldl (· ++ ·) #[]⟩ : Str) = toS (repS z n) := by
          show (⟨(List.replicate n.toNat z.toArray).foldl (· ++ ·) #[]⟩ : Str) = _
          rw [fold_rep, Array.empty_append]
          rfl
        rw [ef]
        refine ⟨?_, ⟨.str (toS (repS z n)), H, Iv.tok _, ⟨_, rfl⟩, fin0 ok p rfl⟩⟩
        rw [toS_length]
        have : (repS z n).length = z.length * n.toNat := by
          unfold repS
          rw [List.length_flatten, List.map_replicate, List.sum_replicate_nat, Nat.mul_comm]
        omega
    · exact p.elim
  · exact mul_ok pins s σ H x y v u Q Iv rx ry ⟨μ, I, _, _, ok, rd, re, p⟩
  · split at p
    · rename_i xs e1
      split at p
      · rename_i h
        have h1 := Bool.and_eq_true_iff.mp h
        have hn := of_decide_eq_true h1.1
        have hs := of_decide_eq_true h1.2
        obtain ⟨a, vs, rfl, q1, r1⟩ := lstOf_ok ok rd e1
        cases re
        refine op_rep pins s σ H _ _ v u Q Iv rx ry ⟨a, _, vs, rfl, rfl, q1, by omega, hn.2, ?_, fun q hq => ?_⟩
        · rw [← RVs.length r1]; exact hs
        · exact fin1 ok p (same_upd hq) (rv_lst ok hq (RVs.rep r1 _))
      · exact p.elim
    · exact p.elim
  · exact p.elim
def binD' : Operator → Option (D → D → MH → Res D)
  | .Mult => some mulSD
  | op => binD op
theorem bin_ok' {X : Cx} {op : Operator} {g : D → D → MH → Res D} (h : binD' op = some g) : OpR X (binaryOp op) (rS2 X g) := by
  cases op <;> first
    | (cases h; exact mulS_ok)
    | exact bin_ok h

/-! ### places -/
def ixD (x y : D) (I : MH) : Res D :=
  match x, y with
  | .str s, .int i => if small s.length then optR I ((atI s i).map fun c => .str [c]) else .stuck
  | x, .int i => match seqOf I x with
    | some xs => optR I (atI xs i)
    | none => .stuck
  | _, _ => .stuck
theorem atI_len {α β : Type} {xs : List α} {ys : List β} {i : Int} {d : α} (hl : xs.length = ys.length) (h : atI xs i = some d) : ∃ j : Nat, xs[j]? = some d ∧ ∀ v : β, ys[j]? = some v → atI ys i = some v := by
  unfold atI at h ⊢
  rw [← hl]
  cases e : ixN xs.length i with
  | none => rw [e] at h; cases h
  | some j =>
    rw [e] at h
    exact ⟨j, h, fun v hv => hv⟩
theorem ix_ok {X : Cx} : IxR X (rS2 X ixD) := by
  intro value slice pins s σ H x y v u Q Iv rx ry ⟨μ, I, d, e, ok, rd, re, p⟩ hs
  unfold ixD at p
  split at p
  · rename_i z i
    split at p
    · rename_i h
      cases q : (atI z i).map (fun c => D.str [c]) with
      | none => rw [q] at p; exact p.elim
      | some w =>
        rw [q] at p
        cases hc : atI z i with
        | none => rw [hc] at q; cases q
        | some c =>
          rw [hc] at q; cases q
          cases rd; cases re
          exact ix_str value slice pins s σ H _ _ v u Q Iv rx ry ⟨_, _, c, rfl, rfl, by rw [toS_length]; exact of_decide_eq_true h, hc, fin0 ok p rfl⟩ hs
    · exact p.elim
  · split at p
    · rename_i i _ _ xs e1
      cases re
      obtain ⟨a, vs, rfl, q1, r1⟩ := seqOf_ok ok rd e1
      cases hc : atI xs i with
      | none => rw [hc] at p; exact p.elim
      | some w =>
        rw [hc] at p
        obtain ⟨j, hj, hv⟩ := atI_len (RVs.length r1) hc
        obtain ⟨w', hw, rw'⟩ := RVs.get r1 hj
        rcases q1 with q1 | q1
        · exact ix_list value slice pins s σ H _ _ v u Q Iv rx ry ⟨a, vs, i, w', rfl, rfl, q1, hv w' hw, fin0 ok p rw'⟩ hs
        · exact ix_tup value slice pins s σ H _ _ v u Q Iv rx ry ⟨a, vs, i, w', rfl, rfl, q1, hv w' hw, fin0 ok p rw'⟩ hs
    · exact p.elim
  · exact p.elim

/-! ### slices -/
def cutD {α : Type} (xs : List α) (lo hi : Option Int) : List α := (xs.drop (HT.sIx xs.length 0 lo)).take (HT.sIx xs.length xs.length hi - HT.sIx xs.length 0 lo)
def slD (x : D) (lo hi : Option Int) (I : MH) : Res D :=
  match x with
  | .str s => if small s.length then .ok (.str (cutD s lo hi)) I else .stuck
  | .tup xs => if decide (HT.sIx xs.length 0 lo = 0 ∧ HT.sIx xs.length xs.length hi = xs.length) then .stuck else .ok (.tup (cutD xs lo hi)) I
  | x => match lstOf I x with
    | some xs => .ok (.lst (cutD xs lo hi)) I
    | none => .stuck
def rSsl (X : Cx) : V → Option Int → Option Int → Hp → VK → Prop := fun x lo hi H Q => ∃ μ I d, Ok X.K X.mg μ I H ∧ RV X.K μ I H d x ∧ RPost X.K X.mg W0 μ I H (sE X Q) (slD d lo hi I)
theorem RVs.cut {K : PySem.W.Frag} {L : Addr → Prop} {μ : List Addr} {H : Hp} {ds : List D} {vs : List V} (r : RepVs K L μ H ds vs) (lo hi : Option Int) : RepVs K L μ H (cutD ds lo hi) (cutV vs lo hi) := by
  unfold cutD cutV
  rw [RVs.length r]
  exact RVs.take _ (RVs.drop _ r)
theorem sl_ok {X : Cx} : SlR X (rSsl X) := by
  intro pins s σ H x v vl vu lo hi sl Q Iv rx hs pl pu ⟨μ, I, d, ok, rd, p⟩
  unfold slD at p
  split at p
  · split at p
    · rename_i z h
      cases rd
      refine sl_str pins s σ H _ v vl vu lo hi sl Q Iv rx hs pl pu ⟨_, rfl, by rw [toS_length]; exact of_decide_eq_true h, ?_⟩
      have e : cutS (toS z) lo hi = toS (cutD z lo hi) := by
        unfold cutS cutD
        rw [toS_length]
        rfl
      rw [e]
      exact fin0 ok p rfl
    · exact p.elim
  · split at p
    · exact p.elim
    · rename_i xs h
      obtain ⟨a, vs, rfl, q1, r1⟩ := rd
      have hl := RVs.length r1
      refine sl_tup pins s σ H _ v vl vu lo hi sl Q Iv rx hs pl pu ⟨a, vs, rfl, q1, ?_, fun q hq => ?_⟩
      · rw [← hl]
        intro z
        exact h (decide_eq_true z)
      · exact fin1 ok p (same_upd hq) (rv_tup ok hq (RVs.cut r1 lo hi))
  · split at p
    · rename_i xs e1
      obtain ⟨a, vs, rfl, q1, r1⟩ := lstOf_ok ok rd e1
      refine sl_list pins s σ H _ v vl vu lo hi sl Q Iv rx hs pl pu ⟨a, vs, rfl, SqL.of q1, fun q hq => ?_⟩
      exact fin1 ok p (same_upd hq) (rv_lst ok hq (RVs.cut r1 lo hi))
    · exact p.elim

/-! ### truth -/
def truD (x : D) (I : MH) : Res Bool :=
  match x with
  | .non => .ok false I
  | .bl b => .ok b I
  | .int i => .ok (i != 0) I
  | .str s => if small s.length then .ok (!s.isEmpty) I else .stuck
  | x => match seqOf I x with
    | some xs => .ok (!xs.isEmpty) I
    | none => .stuck
theorem tru_rep {K : PySem.W.Frag} {mg : Str → Option Value} {μ : List Addr} {I : MH} {H : Hp} (ok : Ok K mg μ I H) {d : D} {v : V} (r : RV K μ I H d v) {b : Bool} {I' : MH} (h : truD d I = .ok b I') : I' = I ∧ TruV K v H b := by
  unfold truD at h
  split at h
  · cases h; cases r; exact ⟨rfl, rfl⟩
  · cases h; cases r; exact ⟨rfl, rfl⟩
  · cases h; cases r; exact ⟨rfl, rfl⟩
  · split at h
    · rename_i z hz
      cases h; cases r
      refine ⟨rfl, by rw [toS_length]; exact of_decide_eq_true hz, ?_⟩
      rw [toS_length]
      cases z with
      | nil => rfl
      | cons a t => simp; omega
    · cases h
  · split at h
    · rename_i xs e1
      cases h
      obtain ⟨a, vs, rfl, q1, r1⟩ := seqOf_ok ok r e1
      have e : xs.isEmpty = vs.isEmpty := by
        have := RVs.length r1
        cases xs <;> cases vs <;> simp_all
      rw [e]
      rcases q1 with q1 | q1
      · exact ⟨rfl, .inl ⟨vs, q1, rfl⟩⟩
      · exact ⟨rfl, .inr (.inl ⟨vs, q1, rfl⟩)⟩
    · cases h

/-! ### built-in functions -/
def lenD (xs : List D) (I : MH) : Res D :=
  match xs with
  | [.str s] => if small s.length then .ok (.int s.length) I else .stuck
  | [x] => match seqOf I x with
    | some ys => .ok (.int ys.length) I
    | none => .stuck
  | _ => .stuck
def intD (xs : List D) (I : MH) : Res D :=
  match xs with
  | [.int i] => .ok (.int i) I
  | [.bl b] => .ok (.int (if b then 1 else 0)) I
  | [.str s] => if decide (s.length ≤ 640) then optR I ((PySem.intText? (toS s)).map .int) else .stuck
  | _ => .stuck
def ordD (xs : List D) (I : MH) : Res D :=
  match xs with
  | [.str [c]] => .ok (.int c) I
  | _ => .stuck
def tupleD (xs : List D) (I : MH) : Res D :=
  match xs with
  | [.tup ys] => .ok (.tup ys) I
  | [x] => match lstOf I x with
    | some ys => .ok (.tup ys) I
    | none => .stuck
  | _ => .stuck
def listD (xs : List D) (I : MH) : Res D :=
  match xs with
  | [x] => match seqOf I x with
    | some ys => .ok (.lst ys) I
    | none => .stuck
  | _ => .stuck
def boolsOf : List D → Option (List Bool)
  | [] => some []
  | .bl b :: r => (boolsOf r).map (b :: ·)
  | _ :: _ => none
def allD (xs : List D) (I : MH) : Res D :=
  match xs with
  | [x] => match (lstOf I x).bind boolsOf with
    | some bs => .ok (.bl (bs.all id)) I
    | none => .stuck
  | _ => .stuck
def anyD (xs : List D) (I : MH) : Res D :=
  match xs with
  | [x] => match (lstOf I x).bind boolsOf with
    | some bs => .ok (.bl (bs.any id)) I
    | none => .stuck
  | _ => .stuck
section
variable {X : Cx} {K : PySem.W.Frag} {μ : List Addr} {I : MH} {H : Hp}
theorem one_rep {L : Addr → Prop} {d : D} {vs : List V} (r : RepVs K L μ H [d] vs) : ∃ v, vs = [v] ∧ RepV K L μ H d v := by
  obtain ⟨v, t, rfl, h, h2⟩ := r
  cases h2
  exact ⟨v, rfl, h⟩
theorem len_ok : CallR X (.builtin "len") (rSn X lenD) := by
  intro pins s σ H xs us Q Iv r ⟨μ, I, ds, ok, rd, p⟩
  unfold lenD at p
  split at p
  · split at p
    · rename_i h
      obtain ⟨v, rfl, rv⟩ := one_rep rd
      cases rv
      refine call_len_str pins s σ H _ us Q Iv r ⟨_, rfl, by rw [toS_length]; exact of_decide_eq_true h, ?_⟩
      rw [toS_length]
      exact fin0 ok p rfl
    · exact p.elim
  · split at p
    · rename_i e1
      obtain ⟨v, rfl, rv⟩ := one_rep rd
      obtain ⟨a, vs, rfl, q1, r1⟩ := seqOf_ok ok rv e1
      refine call_len_seq pins s σ H _ us Q Iv r ⟨a, vs, rfl, q1, ?_⟩
      rw [← RVs.length r1]
      exact fin0 ok p rfl
    · exact p.elim
  · exact p.elim
theorem int_ok : CallR X (.type "int") (rSn X intD) := by
  intro pins s σ H xs us Q Iv r ⟨μ, I, ds, ok, rd, p⟩
  unfold intD at p
  split at p
  · obtain ⟨v, rfl, rv⟩ := one_rep rd
    cases rv
    exact call_int1 pins s σ H _ us Q Iv r (.inl ⟨_, rfl, fin0 ok p rfl⟩)
  · obtain ⟨v, rfl, rv⟩ := one_rep rd
    cases rv
    exact call_int1 pins s σ H _ us Q Iv r (.inr ⟨_, rfl, fin0 ok p rfl⟩)
  · split at p
    · rename_i z h
      obtain ⟨v, rfl, rv⟩ := one_rep rd
      cases rv
      cases e : PySem.intText? (toS z) with
      | none => rw [e] at p; exact p.elim
      | some n =>
        rw [e] at p
        exact call_int_str pins s σ H _ us Q Iv r ⟨_, n, rfl, e, by rw [toS_length]; exact of_decide_eq_true h, fin0 ok p rfl⟩
    · exact p.elim
  · exact p.elim
theorem ord_ok : CallR X (.builtin "ord") (rSn X ordD) := by
  intro pins s σ H xs us Q Iv r ⟨μ, I, ds, ok, rd, p⟩
  unfold ordD at p
  split at p
  · obtain ⟨v, rfl, rv⟩ := one_rep rd
    cases rv
    exact call_ord pins s σ H _ us Q Iv r ⟨_, rfl, rfl, fin0 ok p rfl⟩
  · exact p.elim
theorem tuple_ok : CallR X (.type "tuple") (rSn X tupleD) := by
  intro pins s σ H xs us Q Iv r ⟨μ, I, ds, ok, rd, p⟩
  unfold tupleD at p
  split at p
  · obtain ⟨v, rfl, rv⟩ := one_rep rd
    obtain ⟨a, vs, rfl, q1, r1⟩ := id rv
    exact call_tuple_of pins s σ H _ us Q Iv r ⟨a, vs, rfl, .inr ⟨q1, fin0 ok p rv⟩⟩
  · split at p
    · rename_i e1
      obtain ⟨v, rfl, rv⟩ := one_rep rd
      obtain ⟨a, vs, rfl, q1, r1⟩ := lstOf_ok ok rv e1
      exact call_tuple_of pins s σ H _ us Q Iv r ⟨a, vs, rfl, .inl ⟨SqL.of q1, fun q hq => fin1 ok p (same_upd hq) (rv_tup ok hq r1)⟩⟩
    · exact p.elim
  · exact p.elim
theorem list_ok : CallR X (.type "list") (rSn X listD) := by
  intro pins s σ H xs us Q Iv r ⟨μ, I, ds, ok, rd, p⟩
  unfold listD at p
  split at p
  · split at p
    · rename_i e1
      obtain ⟨v, rfl, rv⟩ := one_rep rd
      obtain ⟨a, vs, rfl, q1, r1⟩ := seqOf_ok ok rv e1
      exact call_list_of pins s σ H _ us Q Iv r ⟨a, vs, rfl, q1, fun q hq => fin1 ok p (same_upd hq) (rv_lst ok hq r1)⟩
    · exact p.elim
  · exact p.elim
theorem bools_rep : ∀ {ds : List D} {vs : List V} {bs : List Bool}, boolsOf ds = some bs → RVs K μ I H ds vs → vs = bs.map V.bl
  | [], _, _, h, r => by cases h; cases r; rfl
  | d :: ds, vs, bs, h, r => by
    obtain ⟨v, t, rfl, r1, r2⟩ := r
    cases d with
    | bl b =>
      unfold boolsOf at h
      cases e : boolsOf ds with
      | none => rw [e] at h; cases h
      | some cs =>
        rw [e] at h; cases h
        cases r1
        rw [bools_rep e r2]
        rfl
    | _ => cases h
theorem all_ok (hc : X.calm = true) : CallR X (.builtin "all") (rSn X allD) := by
  intro pins s σ H xs us Q Iv r ⟨μ, I, ds, ok, rd, p⟩
  unfold allD at p
  split at p
  · rename_i x
    split at p
    · rename_i bs e1
      obtain ⟨v, rfl, rv⟩ := one_rep rd
      cases e2 : lstOf I x with
      | none => rw [e2] at e1; cases e1
      | some ys =>
        rw [e2] at e1
        obtain ⟨a, vs, rfl, q1, r1⟩ := lstOf_ok ok rv e2
        have e3 := bools_rep e1 r1
        subst e3
        exact cr_all hc pins s σ H _ us Q Iv r ⟨a, bs, rfl, SqL.of q1, fin0 ok p rfl⟩
    · exact p.elim
  · exact p.elim
theorem any_ok (hc : X.calm = true) : CallR X (.builtin "any") (rSn X anyD) := by
  intro pins s σ H xs us Q Iv r ⟨μ, I, ds, ok, rd, p⟩
  unfold anyD at p
  split at p
  · rename_i x
    split at p
    · rename_i bs e1
      obtain ⟨v, rfl, rv⟩ := one_rep rd
      cases e2 : lstOf I x with
      | none => rw [e2] at e1; cases e1
      | some ys =>
        rw [e2] at e1
        obtain ⟨a, vs, rfl, q1, r1⟩ := lstOf_ok ok rv e2
        have e3 := bools_rep e1 r1
        subst e3
        exact cr_any hc pins s σ H _ us Q Iv r ⟨a, bs, rfl, SqL.of q1, fin0 ok p rfl⟩
    · exact p.elim
  · exact p.elim
end

/-! ### methods of built-in types -/
def findD (x : D) (xs : List D) (I : MH) : Res D :=
  match x, xs with
  | .str s, [.str t, .int i] => .ok (.int (Txt.find3 (toS s) (toS t) i)) I
  | .str s, [.str t] => .ok (.int (Txt.find (toS s) (toS t))) I
  | _, _ => .stuck
def endswithD (x : D) (xs : List D) (I : MH) : Res D :=
  match x, xs with
  | .str s, [.str t] => .ok (.bl (Txt.endswith (toS s) (toS t))) I
  | _, _ => .stuck
def startswithD (x : D) (xs : List D) (I : MH) : Res D :=
  match x, xs with
  | .str s, [.str t] => .ok (.bl (Txt.startswith (toS s) (toS t))) I
  | _, _ => .stuck
def strsOf : List D → Option (List (List Nat))
  | [] => some []
  | .str s :: r => (strsOf r).map (s :: ·)
  | _ :: _ => none
def joinD (x : D) (xs : List D) (I : MH) : Res D :=
  match x, xs with
  | .str s, [y] => match (lstOf I y).bind strsOf with
    | some ss => if decide ((ss.map List.length).sum + s.length * ss.length ≤ 16777216) then .ok (.str (TL.joinL s ss)) I else .stuck
    | none => .stuck
  | _, _ => .stuck
def appendD (x : D) (xs : List D) (I : MH) : Res D :=
  match x, xs with
  | .loc n, [d] => match I[n]? with
    | some (.lst ys) => if decide (ys.length < sizeLine) then .ok .non (I.set n (.lst (ys ++ [d]))) else .stuck
    | _ => .stuck
  | _, _ => .stuck
def extendD (x : D) (xs : List D) (I : MH) : Res D :=
  match x, xs with
  | .loc n, [d] => match I[n]?, lstOf I d with
    | some (.lst ys), some zs => if small (ys.length + zs.length) then .ok .non (I.set n (.lst (ys ++ zs))) else .stuck
    | _, _ => .stuck
  | _, _ => .stuck
end MP
/-! MP4: the forms of expressions, by the trees' readings -/
namespace MP
open PySem PySem.Spec L2

/-! ### what the written form must not be -/
def notStar : Expr → Bool
  | .Starred .. => false
  | _ => true
theorem star_cons {e : Expr} {es : List Expr} {env : Env} (h : notStar e = true) : starEach (e :: es) env = (false, eval e env) :: starEach es env := by
  cases e <;> first | rfl | cases h
theorem star_any {pos : Pos} {env : Env} : ∀ {es : List Expr}, es.all notStar = true → (backTo pos (starEach es env)).any (·.1) = false
  | [], _ => rfl
  | e :: es, h => by
    rw [List.all_cons] at h
    have h' := Bool.and_eq_true_iff.mp h
    rw [star_cons h'.1]
    show (false || (backTo pos (starEach es env)).any (·.1)) = false
    rw [star_any h'.2]
    rfl
theorem star_all {pos : Pos} {env : Env} : ∀ {es : List Expr}, es.all notStar = true → (backTo pos (starEach es env)).all (fun x => !x.1) = true
  | [], _ => rfl
  | e :: es, h => by
    rw [List.all_cons] at h
    have h' := Bool.and_eq_true_iff.mp h
    rw [star_cons h'.1]
    show (!false && (backTo pos (starEach es env)).all (fun x => !x.1)) = true
    rw [star_all h'.2]
    rfl
def baseOk : Expr → Bool
  | .Call (.Name _ _) [] [] _ => false
  | _ => true
theorem base_ok {o : Expr} {name : Str} {env : Env} {w : Sem Value} (h : baseOk o = true) : attributeBase o name env w = w := by
  unfold baseOk at h
  split at h
  · cases h
  · rename_i hn
    unfold attributeBase
    split
    · exact absurd rfl (hn _ _ _)
    · rfl
def notSlice : Expr → Bool
  | .Slice .. => false
  | _ => true
theorem plainIx {b : Expr} (h : notSlice b = true) : PlainIx b := by
  intro o i
  cases b <;> first | rfl | cases h
def notSet : Expr → Bool
  | .Set .. => false
  | _ => true
theorem noMarks {op : CmpOp} {b : Expr} (h : notSet b = true) : behindInMarks op b = false := by
  cases b <;> first | rfl | cases h
theorem noFold {e : Expr} {env : Env} (h : notSet e = true) (x : Value) : foldedSetIterable e env x = pure x := by
  cases e <;> first | rfl | cases h
def plainTest : Expr → Bool
  | .UnaryOp .Not _ _ => false
  | .BoolOp .. => false
  | .IfExp .. => false
  | .Compare .. => false
  | _ => true
theorem plain_test {e : Expr} {env : Env} (h : plainTest e = true) (whole : Sem Value) : isTrue e env whole = (do let v ← whole; standAt e.pos; holding [v] (truthy v)) := by
  cases e with
  | UnaryOp op a p => cases op <;> first | rfl | cases h
  | BoolOp => cases h
  | IfExp => cases h
  | Compare => cases h
  | _ => rfl
def notComp : Expr → Bool
  | .ListComp .. => false
  | .SetComp .. => false
  | .DictComp .. => false
  | _ => true
theorem noSwap {e : Expr} {t : Option Expr} {l : Nat} {env : Env} (h : notComp e = true) : swapsWith e t l env = pure false := by
  cases e <;> first | rfl | cases h

/-! ### the context of the writing -/
structure CC where
  sc : Scope
  N : List Str
  isDef : Bool
  fns : List (Str × Nat × FF)
  cst : List (Str × D)
  blt : List Str
  mts : List Str
  exs : List (Str × Option Str)
  cls : List (Str × List Str) := []
  mth : List ((Str × Str) × Nat × FF) := []
  mks : List (Str × Nat × FF) := []
  kds : List (Str × List (List Nat × D)) := []
  tab : Option (Str × Str) := none

def spSim (K : PySem.W.Frag) (mg : Str → Option Value) (n : Nat) (F : FF) : Sp := fun vs H Q E => vs.length = n ∧ ∃ μ I ds, Ok K mg μ I H ∧ RVs K μ I H ds vs ∧ RPost K mg E μ I H (fun μ' I' H' d => ∀ v, RV K μ' I' H' d v → Q v H') (F ds I)
/-- a def that the text has, and what it is worth -/
structure FnSim (P : Program) (w : World) (K : PySem.W.Frag) (mg : Str → Option Value) (base : Heap) (k : Nat) (x : Str) (n : Nat) (F : FF) : Prop where
  ex : ∃ f fd ps, mg x = some (.ref f) ∧ PySem.W.keepIn K (.ref f) = true ∧ Binds K fd ps [] ∧ FnOk P w K mg base (L2N.CX P w) k f fd ps (spSim K mg n F)
theorem FnSim.mono {P : Program} {w : World} {K : PySem.W.Frag} {mg : Str → Option Value} {base : Heap} {k j : Nat} {x : Str} {n : Nat} {F : FF} (h : FnSim P w K mg base k x n F) (hj : k ≤ j) : FnSim P w K mg base j x n F := by
  obtain ⟨f, fd, ps, h1, h2, h3, h4⟩ := h.ex
  exact ⟨f, fd, ps, h1, h2, h3, h4.mono hj⟩
/-- what is known of a class -/
def ClsOk (K : PySem.W.Frag) (mg : Str → Option Value) (c : Str) (as : List Str) : Prop := ∃ C, mg c = some (.ref C) ∧ Cls K C ∧ ∀ n, as.contains n = true → NoAttr K C n
structure MthSim (P : Program) (w : World) (K : PySem.W.Frag) (mg : Str → Option Value) (base : Heap) (k : Nat) (c m : Str) (n : Nat) (F : FF) : Prop where
  ex : ∃ C f fd ps, mg c = some (.ref C) ∧ Cls K C ∧ Meth K C m f ∧ Binds K fd ps [] ∧ FnOk P w K mg base (L2N.CX P w) k f fd ps (spSim K mg n F)
structure MakeSim (P : Program) (w : World) (K : PySem.W.Frag) (mg : Str → Option Value) (base : Heap) (k : Nat) (c : Str) (n : Nat) (F : FF) : Prop where
  ex : ∃ C f fd ps, mg c = some (.ref C) ∧ Mk K C f ∧ Binds K fd ps [] ∧ FnOk P w K mg base (L2N.CX P w) k f fd ps (spSim K mg n F)
section
variable {P : Program} {w : World} {K : PySem.W.Frag} {mg : Str → Option Value} {base : Heap} {k j : Nat} {c m : Str} {n : Nat} {F : FF}
theorem MthSim.mono (h : MthSim P w K mg base k c m n F) (hj : k ≤ j) : MthSim P w K mg base j c m n F := by
  obtain ⟨C, f, fd, ps, h1, h2, h3, h4, h5⟩ := h.ex
  exact ⟨C, f, fd, ps, h1, h2, h3, h4, h5.mono hj⟩
theorem MakeSim.mono (h : MakeSim P w K mg base k c n F) (hj : k ≤ j) : MakeSim P w K mg base j c n F := by
  obtain ⟨C, f, fd, ps, h1, h2, h3, h4⟩ := h.ex
  exact ⟨C, f, fd, ps, h1, h2, h3, h4.mono hj⟩
end
/-- a dict of the written part, its keys texts -/
def KdOk (K : PySem.W.Frag) (w : World) (mg : Str → Option Value) (T : Str) (tb : List (List Nat × D)) : Prop := ∃ (d : Addr) (es : Array DictEntry) (n : Nat), mg T = some (.ref d) ∧ KDict K w d es n ∧
  ∀ z : List Nat, match tb.lookup z with
    | some x => ∃ u v, PySem.W.nsIn K d (toS z) = some (some u) ∧ RelV v u ∧ ∀ μ I H, RV K μ I H x v
    | none => PySem.W.nsIn K d (toS z) = some none
/-- what holds of the module, of all contexts -/
structure Mdl (P : Program) (w : World) (K : PySem.W.Frag) (mg : Str → Option Value) (base : Heap) (k : Nat) (C : CC) : Prop where
  fns : ∀ x n F, C.fns.lookup x = some (n, F) → FnSim P w K mg base k x n F
  cst : ∀ x d, C.cst.lookup x = some d → ∃ u v, mg x = some u ∧ RelV v u ∧ ∀ μ I H, RV K μ I H d v
  blt : ∀ x, C.blt.contains x = true → mg x = none
  cls : ∀ c as, C.cls.lookup c = some as → ClsOk K mg c as
  mth : ∀ c m n F, C.mth.lookup (c, m) = some (n, F) → MthSim P w K mg base k c m n F
  mks : ∀ c n F, C.mks.lookup c = some (n, F) → ∃ j, j + 1 ≤ k ∧ MakeSim P w K mg base j c n F
  kds : ∀ T tb, C.kds.lookup T = some tb → KdOk K w mg T tb
structure Mt (X : Cx) (C : CC) (W : WX) (k : Nat) : Prop where
  sc : X.env.scope = C.sc
  N : X.N = C.N
  nd : C.N.Nodup
  calm : X.calm = true
  room : Room k X.A
  tk : L2N.Takes X W
  isDef : C.isDef = true → ∀ x, X.fn x = true
  mdl : Mdl X.prog X.w X.K X.mg X.base k C
  tab : ∀ q, C.tab = some q → Room (k + 1) X.A ∧ ∃ c P, X.env.code = .ref c ∧ GxR.TabB X.base X.mg c P ∧ ∀ a, TabId X.K X.mg q.1 q.2 a → a = P

def idx (x : Str) : List Str → Option Nat
  | [] => none
  | y :: ys => if x = y then some 0 else (idx x ys).map (· + 1)
theorem idx_get {x : Str} : ∀ {l : List Str} {i : Nat}, idx x l = some i → l[i]? = some x
  | [], _, h => by cases h
  | y :: ys, i, h => by
    unfold idx at h
    split at h
    · rename_i e
      cases h
      rw [e]; rfl
    · cases e : idx x ys with
      | none => rw [e] at h; cases h
      | some j =>
        rw [e] at h; cases h
        have := idx_get e
        simpa using this

def getV (i : Nat) : EF := fun ρ I => match ρ[i]? with
  | some (some d) => .ok d I
  | _ => .stuck
def cV (d : D) : EF := fun _ I => .ok d I
def bin2 (g : D → D → MH → Res D) (f h : EF) : EF := fun ρ I => (f ρ I).bind fun x I1 => (h ρ I1).bind fun y I2 => g x y I2
def un1 (g : D → MH → Res D) (f : EF) : EF := fun ρ I => (f ρ I).bind fun x I1 => g x I1
def chain2 (g g' : D → D → MH → Res D) (f h h' : EF) : EF := fun ρ I => (f ρ I).bind fun x I1 => (h ρ I1).bind fun y I2 => (g x y I2).bind fun c I3 => match c with
  | .bl true => (h' ρ I3).bind fun z I4 => g' y z I4
  | .bl false => .ok (.bl false) I3
  | _ => .stuck
def andE (f g : EF) : EF := fun ρ I => (f ρ I).bind fun x I1 => match x with
  | .bl true => g ρ I1
  | .bl false => .ok (.bl false) I1
  | _ => .stuck
def orE (f g : EF) : EF := fun ρ I => (f ρ I).bind fun x I1 => match x with
  | .bl false => g ρ I1
  | .bl true => .ok (.bl true) I1
  | _ => .stuck
def notB (x : D) (I : MH) : Res D :=
  match x with
  | .bl b => .ok (.bl (!b)) I
  | _ => .stuck
def negD (x : D) (I : MH) : Res D :=
  match x with
  | .int i => .ok (.int (-i)) I
  | _ => .stuck
def ifE (t : TF) (f g : EF) : EF := fun ρ I => (t ρ I).bind fun b I1 => if b then f ρ I1 else g ρ I1
def seqA : List EF → AF
  | [] => fun _ I => .ok [] I
  | f :: fs => fun ρ I => (f ρ I).bind fun x I1 => (seqA fs ρ I1).bind fun xs I2 => .ok (x :: xs) I2
def tupE (fs : List EF) : EF := fun ρ I => (seqA fs ρ I).bind fun xs I1 => if small xs.length then .ok (.tup xs) I1 else .stuck
def lstE (fs : List EF) : EF := fun ρ I => (seqA fs ρ I).bind fun xs I1 => if small xs.length then .ok (.lst xs) I1 else .stuck
def partE : Option EF → En → MH → Res (Option Int)
  | none => fun _ I => .ok none I
  | some f => fun ρ I => (f ρ I).bind fun x I1 => match x with
    | .int i => .ok (some i) I1
    | _ => .stuck
def sliceE (f : EF) (lo hi : Option EF) : EF := fun ρ I => (f ρ I).bind fun x I1 => (partE lo ρ I1).bind fun l I2 => (partE hi ρ I2).bind fun h I3 => slD x l h I3
def callE (n : Nat) (F : FF) (fs : List EF) : EF := fun ρ I => (seqA fs ρ I).bind fun xs I1 => if xs.length = n then F xs I1 else .stuck
def bltE (g : List D → MH → Res D) (fs : List EF) : EF := fun ρ I => (seqA fs ρ I).bind fun xs I1 => (g xs I1).calm
def truE (f : EF) : TF := fun ρ I => (f ρ I).bind fun x I1 => truD x I1
def boolE (f : EF) : TF := fun ρ I => (f ρ I).bind fun x I1 => match x with
  | .bl b => .ok b I1
  | _ => .stuck
def andT (f g : TF) : TF := fun ρ I => (f ρ I).bind fun b I1 => if b then g ρ I1 else .ok false I1
def orT (f g : TF) : TF := fun ρ I => (f ρ I).bind fun b I1 => if b then .ok true I1 else g ρ I1
def notT (f : TF) : TF := fun ρ I => (f ρ I).bind fun b I1 => .ok (!b) I1

section
variable {X : Cx} {W : WX}
theorem se_var {i : Nat} {x : Str} {pos : Pos} (hN : X.N[i]? = some x) (hv : Vis X.env.scope x) (hd : (x == ("__debug__" : Str)) = false) (hcd : (x == ("__classdict__" : Str)) = false) : SE X W (.Name x pos) (getV i) := by
  refine pe_weak (pe_var hN hv hd hcd) fun σ H Q ⟨μ, ρ, I, rr, ok, p⟩ => ?_
  unfold getV at p
  split at p
  · rename_i d e
    obtain ⟨v, h1, h2⟩ := rr.2 i d e
    exact ⟨v, h1, fin0 ok p h2⟩
  · exact p.elim
theorem se_const {e : Expr} {v : V} {d : D} (h : PE X e (tC v)) (hd : ∀ μ I H, RV X.K μ I H d v) : SE X W e (cV d) :=
  pe_weak h fun σ H Q ⟨μ, ρ, I, rr, ok, p⟩ => fin0 ok p (hd _ _ _)
theorem use2 {σ : L2.St} {H : Hp} {Q : VK} {W' : Value → Option Addr → Hp → Prop} {μ : List Addr} {I : MH} {g : D → D → MH → Res D} {d e : D} {x y : V} (hg : ∀ d e I x I', g d e I ≠ .err x I') (ok : Ok X.K X.mg μ I H) (rd : RV X.K μ I H d x) (re : RV X.K μ I H e y)
    (p : RPost X.K X.mg W' μ I H (sE X Q) (g d e I)) : rS2 X g x y H Q := by
  refine ⟨μ, I, d, e, ok, rd, re, ?_⟩
  cases h : g d e I with
  | ok a I2 => rw [h] at p; exact p
  | err z I2 => exact absurd h (hg d e I z I2)
  | stuck => rw [h] at p; exact p
theorem se_bin {a b : Expr} {f h : EF} {op : Operator} {g : D → D → MH → Res D} {pos : Pos} (hg : ∀ d e I x I', g d e I ≠ .err x I') (ho : OpR X (binaryOp op) (rS2 X g)) (ha : SE X W a f) (hb : SE X W b h) : SE X W (.BinOp a op b pos) (bin2 g f h) := by
  refine pe_weak (pe_op ho ha hb) fun σ H Q ⟨μ, ρ, I, rr, ok, p⟩ => ?_
  refine then_E rr ok p fun μ1 I1 H1 d v e1 rr1 ok1 rd p1 => ?_
  refine then_E rr1 ok1 p1 fun μ2 I2 H2 e u e2 rr2 ok2 re p2 => ?_
  exact use2 (σ := σ) hg ok2 (RepV.ext e2 ok1 _ _ rd) re p2
theorem se_cmp {a b : Expr} {f h : EF} {op : CmpOp} {g : D → D → MH → Res D} {pos : Pos} (hg : ∀ d e I x I', g d e I ≠ .err x I') (ho : OpR X (compareOp op) (rS2 X g)) (hm : notSet b = true) (ha : SE X W a f) (hb : SE X W b h) : SE X W (.Compare a [op] [b] pos) (bin2 g f h) := by
  refine pe_weak (pe_cmpR ho ha hb (noMarks hm)) fun σ H Q ⟨μ, ρ, I, rr, ok, p⟩ => ?_
  refine then_E rr ok p fun μ1 I1 H1 d v e1 rr1 ok1 rd p1 => ?_
  refine then_E rr1 ok1 p1 fun μ2 I2 H2 e u e2 rr2 ok2 re p2 => ?_
  exact use2 (σ := σ) hg ok2 (RepV.ext e2 ok1 _ _ rd) re p2
/-- .. as a test -/
theorem st_cmp {a b : Expr} {f h : EF} {op : CmpOp} {g : D → D → MH → Res D} {pos : Pos} (hg : ∀ d e I x I', g d e I ≠ .err x I') (ho : OpR X (compareOp op) (rS2 X g)) (hm : notSet b = true) (ha : SE X W a f) (hb : SE X W b h) : ST X W (.Compare a [op] [b] pos) (boolE (bin2 g f h)) := by
  refine pt_weak (pt_cmpR ho ha hb (noMarks hm)) fun σ H Q ⟨μ, ρ, I, rr, ok, p⟩ => ?_
  have p' := RPost.bind p
  refine then_E rr ok p' fun μ1 I1 H1 d v e1 rr1 ok1 rd p1 => ?_
  refine then_E rr1 ok1 p1 fun μ2 I2 H2 e u e2 rr2 ok2 re p2 => ?_
  refine use2 (σ := σ) hg ok2 (RepV.ext e2 ok1 _ _ rd) re (p2.imp (S' := sE X fun x H' => ∃ k, x = V.bl k ∧ Q k H') (fun μ3 I3 H3 c e3 ok3 q3 w rw' => ?_) fun _ _ _ z => z)
  split at q3
  · cases rw'
    exact ⟨_, rfl, q3 μ3 H3 Ext.refl ok3⟩
  · exact q3.elim
theorem se_chain {a b c : Expr} {f h h' : EF} {op op' : CmpOp} {g g' : D → D → MH → Res D} {pos : Pos} (hg : ∀ d e I x I', g d e I ≠ .err x I') (hg' : ∀ d e I x I', g' d e I ≠ .err x I') (ho : OpR X (compareOp op) (rS2 X g)) (ho' : OpR X (compareOp op') (rS2 X g')) (hm : notSet c = true)
    (ha : SE X W a f) (hb : SE X W b h) (hc : SE X W c h') : SE X W (.Compare a [op, op'] [b, c] pos) (chain2 g g' f h h') := by
  refine pe_weak (pe_chain ho ho' ha hb hc (by unfold lastMarks; exact noMarks hm)) fun σ H Q ⟨μ, ρ, I, rr, ok, p⟩ => ?_
  refine then_E rr ok p fun μ1 I1 H1 d v e1 rr1 ok1 rd p1 => ?_
  refine then_E rr1 ok1 p1 fun μ2 I2 H2 e u e2 rr2 ok2 re p2 => ?_
  refine use2 (σ := σ) hg ok2 (RepV.ext e2 ok1 _ _ rd) re ((RPost.bind p2).imp (S' := sE X _) (fun μ3 I3 H3 c' e3 ok3 q3 w rw' => ?_) fun _ _ _ z => z)
  split at q3
  · cases rw'
    refine ⟨true, rfl, ?_⟩
    rw [if_pos rfl]
    refine then_E (rr2.ext e3 ok2) ok3 q3 fun μ4 I4 H4 z zv e4 rr4 ok4 rz p4 => ?_
    exact use2 (σ := σ) hg' ok4 (RepV.ext e4 ok3 _ _ (RepV.ext e3 ok2 _ _ re)) rz p4
  · cases rw'
    refine ⟨false, rfl, ?_⟩
    rw [if_neg Bool.false_ne_true]
    exact fin0 ok3 q3 rfl
  · exact q3.elim
theorem st_chain {a b c : Expr} {f h h' : EF} {op op' : CmpOp} {g g' : D → D → MH → Res D} {pos : Pos} (hg : ∀ d e I x I', g d e I ≠ .err x I') (hg' : ∀ d e I x I', g' d e I ≠ .err x I') (ho : OpR X (compareOp op) (rS2 X g)) (ho' : OpR X (compareOp op') (rS2 X g')) (hm : notSet c = true)
    (ha : SE X W a f) (hb : SE X W b h) (hc : SE X W c h') : ST X W (.Compare a [op, op'] [b, c] pos) (boolE (chain2 g g' f h h')) := by
  refine pt_weak (pt_chain ho ho' ha hb hc (by unfold lastMarks; exact noMarks hm)) fun σ H Q ⟨μ, ρ, I, rr, ok, p⟩ => ?_
  have p' := RPost.bind p
  refine then_E rr ok p' fun μ1 I1 H1 d v e1 rr1 ok1 rd p1 => ?_
  refine then_E rr1 ok1 p1 fun μ2 I2 H2 e u e2 rr2 ok2 re p2 => ?_
  refine use2 (σ := σ) hg ok2 (RepV.ext e2 ok1 _ _ rd) re ((RPost.bind p2).imp (S' := sE X _) (fun μ3 I3 H3 c' e3 ok3 q3 w rw' => ?_) fun _ _ _ z => z)
  split at q3
  · cases rw'
    refine ⟨true, rfl, ?_⟩
    rw [if_pos rfl]
    refine then_E (rr2.ext e3 ok2) ok3 q3 fun μ4 I4 H4 z zv e4 rr4 ok4 rz p4 => ?_
    refine use2 (σ := σ) hg' ok4 (RepV.ext e4 ok3 _ _ (RepV.ext e3 ok2 _ _ re)) rz (p4.imp (S' := sE X fun x H' => ∃ k, x = V.bl k ∧ Q k H') (fun μ5 I5 H5 c5 e5 ok5 q5 w5 rw5 => ?_) fun _ _ _ z => z)
    split at q5
    · cases rw5
      exact ⟨_, rfl, q5 μ5 H5 Ext.refl ok5⟩
    · exact q5.elim
  · cases rw'
    refine ⟨false, rfl, ?_⟩
    rw [if_neg Bool.false_ne_true]
    exact ⟨false, rfl, q3 μ3 H3 Ext.refl ok3 μ3 H3 Ext.refl ok3⟩
  · exact q3.elim
theorem se_and {a b : Expr} {rest : List Expr} {f g : EF} {pos : Pos} (ha : SE X W a f) (hb : SE X W (.BoolOp .And (b :: rest) pos) g) : SE X W (.BoolOp .And (a :: b :: rest) pos) (andE f g) := by
  refine pe_weak (pe_and ha hb) fun σ H Q ⟨μ, ρ, I, rr, ok, p⟩ => ?_
  refine then_E rr ok p fun μ1 I1 H1 d v e1 rr1 ok1 rd p1 => ?_
  split at p1
  · cases rd
    exact ⟨true, rfl, iteT ⟨μ1, ρ, I1, rr1, ok1, p1⟩⟩
  · cases rd
    exact ⟨false, rfl, iteF (fin0 ok1 p1 rfl)⟩
  · exact p1.elim
theorem se_or {a b : Expr} {rest : List Expr} {f g : EF} {pos : Pos} (ha : SE X W a f) (hb : SE X W (.BoolOp .Or (b :: rest) pos) g) : SE X W (.BoolOp .Or (a :: b :: rest) pos) (orE f g) := by
  refine pe_weak (pe_or ha hb) fun σ H Q ⟨μ, ρ, I, rr, ok, p⟩ => ?_
  refine then_E rr ok p fun μ1 I1 H1 d v e1 rr1 ok1 rd p1 => ?_
  split at p1
  · cases rd
    exact ⟨false, rfl, iteF ⟨μ1, ρ, I1, rr1, ok1, p1⟩⟩
  · cases rd
    exact ⟨true, rfl, iteT (fin0 ok1 p1 rfl)⟩
  · exact p1.elim
theorem se_not {a : Expr} {f : EF} {pos : Pos} (ha : SE X W a f) : SE X W (.UnaryOp .Not a pos) (un1 notB f) := by
  refine pe_weak (pe_not ha) fun σ H Q ⟨μ, ρ, I, rr, ok, p⟩ => ?_
  refine then_E rr ok p fun μ1 I1 H1 d v e1 rr1 ok1 rd p1 => ?_
  unfold notB at p1
  split at p1
  · cases rd
    exact ⟨_, rfl, fin0 ok1 p1 rfl⟩
  · exact p1.elim
theorem se_neg {a : Expr} {f : EF} {pos : Pos} (ha : SE X W a f) : SE X W (.UnaryOp .USub a pos) (un1 negD f) := by
  refine pe_weak (pe_un un_neg ha) fun σ H Q ⟨μ, ρ, I, rr, ok, p⟩ => ?_
  refine then_E rr ok p fun μ1 I1 H1 d v e1 rr1 ok1 rd p1 => ?_
  unfold negD at p1
  split at p1
  · cases rd
    exact ⟨_, rfl, fin0 ok1 p1 rfl⟩
  · exact p1.elim
theorem se_if {c a b : Expr} {t : TF} {f g : EF} {pos : Pos} (hc : ST X W c t) (ha : SE X W a f) (hb : SE X W b g) : SE X W (.IfExp c a b pos) (ifE t f g) := by
  refine pe_weak (pe_ifExp hc ha hb) fun σ H Q ⟨μ, ρ, I, rr, ok, p⟩ => ?_
  refine then_T rr ok p fun μ1 I1 H1 b e1 rr1 ok1 p1 => ?_
  cases b with
  | true => exact iteT ⟨μ1, ρ, I1, rr1, ok1, p1⟩
  | false => exact iteF ⟨μ1, ρ, I1, rr1, ok1, p1⟩
theorem sa_of : ∀ {es : List Expr} {fs : List EF}, PySem.Paired (SE X W) es fs → es.all notStar = true → SA X W es (seqA fs)
  | [], _, .nil, _ => pa_weak pa_nil fun σ H Q ⟨μ, ρ, I, rr, ok, p⟩ => p μ H Ext.refl ok [] rfl
  | e :: es, f :: fs, .cons h hs, hn => by
    rw [List.all_cons] at hn
    have hn' := Bool.and_eq_true_iff.mp hn
    refine pa_weak (pa_cons h (sa_of hs hn'.2) (star_cons hn'.1)) fun σ H Q ⟨μ, ρ, I, rr, ok, p⟩ => ?_
    refine then_E rr ok p fun μ1 I1 H1 d v e1 rr1 ok1 rd p1 => ?_
    refine then_A rr1 ok1 p1 fun μ2 I2 H2 ds vs e2 rr2 ok2 rds p2 => ?_
    exact p2 μ2 H2 Ext.refl ok2 (v :: vs) ⟨v, vs, rfl, RepV.ext e2 ok1 _ _ rd, rds⟩
theorem se_tup {es : List Expr} {fs : List EF} {n : Nat} {pos : Pos} (h : SA X W es (seqA fs)) : SE X W (.Tuple es n pos) (tupE fs) := by
  refine pe_weak (pe_tup h) fun σ H Q ⟨μ, ρ, I, rr, ok, p⟩ => ?_
  refine then_A rr ok p fun μ1 I1 H1 ds vs e1 rr1 ok1 rd p1 => ?_
  split at p1
  · rename_i hz
    exact ⟨by rw [← RVs.length rd]; exact of_decide_eq_true hz, fun q hq => fin1 ok1 p1 (same_upd hq) (rv_tup ok1 hq rd)⟩
  · exact p1.elim
theorem se_lst {es : List Expr} {fs : List EF} {pos : Pos} (h : SA X W es (seqA fs)) : SE X W (.List es pos) (lstE fs) := by
  refine pe_weak (pe_lst h) fun σ H Q ⟨μ, ρ, I, rr, ok, p⟩ => ?_
  refine then_A rr ok p fun μ1 I1 H1 ds vs e1 rr1 ok1 rd p1 => ?_
  split at p1
  · rename_i hz
    exact ⟨by rw [← RVs.length rd]; exact of_decide_eq_true hz, fun q hq => fin1 ok1 p1 (same_upd hq) (rv_lst ok1 hq rd)⟩
  · exact p1.elim
theorem ix_calm : ∀ d e I x I', ixD d e I ≠ .err x I' := by
  intro d e I x I' h
  unfold ixD at h
  split at h
  · split at h
    · unfold optR at h; split at h <;> cases h
    · cases h
  · split at h
    · unfold optR at h; split at h <;> cases h
    · cases h
  · cases h
theorem se_ix {a b : Expr} {f h : EF} {pos : Pos} (hs : notSlice b = true) (ha : SE X W a f) (hb : SE X W b h) : SE X W (.Subscript a b pos) (bin2 ixD f h) := by
  refine pe_weak (pe_ix ix_ok ha hb (plainIx hs)) fun σ H Q ⟨μ, ρ, I, rr, ok, p⟩ => ?_
  refine then_E rr ok p fun μ1 I1 H1 d v e1 rr1 ok1 rd p1 => ?_
  refine then_E rr1 ok1 p1 fun μ2 I2 H2 e u e2 rr2 ok2 re p2 => ?_
  exact use2 (σ := σ) ix_calm ok2 (RepV.ext e2 ok1 _ _ rd) re p2
/-- a part of a slice -/
def SO (X : Cx) (W : WX) (e : Option Expr) (f : Option EF) : Prop := PO X e (fun σ H Q => ∃ μ ρ I, RepR X.K μ I H ρ σ ∧ Ok X.K X.mg μ I H ∧ RPost X.K X.mg (fun c dd H' => W c dd σ H') μ I H (fun _ _ H' o => Q o H') (partE f ρ I))
theorem po_weak {X : Cx} {e : Option Expr} {t t' : TO} (h : PO X e t) (m : ∀ σ H Q, t' σ H Q → t σ H Q) : PO X e t' := ⟨fun pins s σ H Q I q => h.run pins s σ H Q I (m σ H Q q)⟩
theorem so_none : SO X W none none := po_weak po_none fun σ H Q ⟨μ, ρ, I, rr, ok, p⟩ => p μ H Ext.refl ok
theorem so_some {e : Expr} {f : EF} (h : SE X W e f) : SO X W (some e) (some f) := by
  refine po_weak (po_some h) fun σ H Q ⟨μ, ρ, I, rr, ok, p⟩ => ?_
  refine then_E rr ok p fun μ1 I1 H1 d v e1 rr1 ok1 rd p1 => ?_
  split at p1
  · cases rd
    exact ⟨_, rfl, p1 μ1 H1 Ext.refl ok1⟩
  · exact p1.elim
theorem sl_calm : ∀ d lo hi I x I', slD d lo hi I ≠ .err x I' := by
  intro d lo hi I x I' h
  unfold slD at h
  split at h
  · split at h <;> cases h
  · split at h <;> cases h
  · split at h <;> cases h
theorem se_slice {a : Expr} {lo hi : Option Expr} {f : EF} {l h : Option EF} {p2 pos : Pos} (ha : SE X W a f) (hl : SO X W lo l) (hh : SO X W hi h) : SE X W (.Subscript a (.Slice lo hi none p2) pos) (sliceE f l h) := by
  refine pe_weak (pe_slice sl_ok ha hl hh) fun σ H Q ⟨μ, ρ, I, rr, ok, p⟩ => ?_
  refine then_E rr ok p fun μ1 I1 H1 d v e1 rr1 ok1 rd p1 => ?_
  refine ⟨μ1, ρ, I1, rr1, ok1, (RPost.bind p1).imp (fun μ2 I2 H2 o e2 ok2 q2 => ?_) fun _ _ _ z => z⟩
  refine ⟨μ2, ρ, I2, rr1.ext e2 ok1, ok2, (RPost.bind q2).imp (fun μ3 I3 H3 o' e3 ok3 q3 => ?_) fun _ _ _ z => z⟩
  refine ⟨μ3, I3, d, ok3, RepV.ext e3 ok2 _ _ (RepV.ext e2 ok1 _ _ rd), ?_⟩
  cases e : slD d o o' I3 with
  | ok a I4 => rw [e] at q3; exact q3
  | err z I4 => exact absurd e (sl_calm _ _ _ _ _ _)
  | stuck => rw [e] at q3; exact q3
theorem se_call {C : CC} {k n : Nat} {F : FF} {x : Str} {p pos : Pos} {e : Expr} {es : List Expr} {fs : List EF} (M : Mt X C W k) (hF : C.fns.lookup x = some (n, F)) (hg : Gl X x) (hdb : (x == ("__debug__" : Str)) = false) (hn : (e :: es).all notStar = true)
    (ha : SA X W (e :: es) (seqA fs)) : SE X W (.Call (.Name x p) (e :: es) [] pos) (callE n F fs) := by
  obtain ⟨f, fd, ps, h1, h2, h3, h4⟩ := (M.mdl.fns x n F hF).ex
  have hn' := Bool.and_eq_true_iff.mp (by rw [List.all_cons] at hn; exact hn)
  refine pe_weak (pe_callS h4 M.room hg h1 h2 h3 (E := WE W) (fun σ => L2N.passAt M.tk σ) ha hdb (star_cons hn'.1) (star_any hn'.2)) fun σ H Q ⟨μ, ρ, I, rr, ok, p⟩ => ?_
  refine then_A rr ok p fun μ1 I1 H1 ds vs e1 rr1 ok1 rd p1 => ?_
  split at p1
  · rename_i hl
    exact ⟨by rw [← RVs.length rd]; exact hl, μ1, I1, ds, ok1, rd, p1⟩
  · exact p1.elim
theorem se_callB {x : Str} {id : String} {p pos : Pos} {e : Expr} {es : List Expr} {fs : List EF} {g : List D → MH → Res D} (hc : CallR X (.builtin id) (rSn X g)) (hg : Gl X x) (hm : X.mg x = none) (hv : bootBuiltins x = some (.builtin id)) (hn1 : x ≠ "__name__") (hdb : (x == ("__debug__" : Str)) = false)
    (hn : (e :: es).all notStar = true) (ha : SA X W (e :: es) (seqA fs)) : SE X W (.Call (.Name x p) (e :: es) [] pos) (bltE g fs) := by
  have hn' := Bool.and_eq_true_iff.mp (by rw [List.all_cons] at hn; exact hn)
  refine pe_weak (pe_callB hc hg hm hv ha hn1 hdb (star_cons hn'.1) (star_any hn'.2)) fun σ H Q ⟨μ, ρ, I, rr, ok, p⟩ => ?_
  refine then_A rr ok p fun μ1 I1 H1 ds vs e1 rr1 ok1 rd p1 => ?_
  exact ⟨μ1, I1, ds, ok1, rd, p1.calm⟩
theorem se_callTy {x : Str} {id : String} {p pos : Pos} {e : Expr} {es : List Expr} {fs : List EF} {g : List D → MH → Res D} (hc : CallR X (.type id) (rSn X g)) (hg : Gl X x) (hm : X.mg x = none) (hv : bootBuiltins x = some (.type id)) (hn1 : x ≠ "__name__") (hdb : (x == ("__debug__" : Str)) = false)
    (hn : (e :: es).all notStar = true) (ha : SA X W (e :: es) (seqA fs)) : SE X W (.Call (.Name x p) (e :: es) [] pos) (bltE g fs) := by
  have hn' := Bool.and_eq_true_iff.mp (by rw [List.all_cons] at hn; exact hn)
  refine pe_weak (pe_callTy hc hg hm hv ha hn1 hdb (star_cons hn'.1) (star_any hn'.2)) fun σ H Q ⟨μ, ρ, I, rr, ok, p⟩ => ?_
  refine then_A rr ok p fun μ1 I1 H1 ds vs e1 rr1 ok1 rd p1 => ?_
  exact ⟨μ1, I1, ds, ok1, rd, p1.calm⟩
/-! tests -/
theorem tru_calm : ∀ d I x I', truD d I ≠ .err x I' := by
  intro d I x I' h
  unfold truD at h
  split at h
  · cases h
  · cases h
  · cases h
  · split at h <;> cases h
  · split at h <;> cases h
theorem st_tru {e : Expr} {f : EF} (h : SE X W e f) (hp : plainTest e = true) : ST X W e (truE f) := by
  refine pt_weak (pt_truth h (plain_test hp)) fun σ H Q ⟨μ, ρ, I, rr, ok, p⟩ => ?_
  refine then_E rr ok p fun μ1 I1 H1 d v e1 rr1 ok1 rd p1 => ?_
  cases e : truD d I1 with
  | ok b I2 =>
    rw [e] at p1
    obtain ⟨z, t⟩ := tru_rep ok1 rd e
    subst z
    exact ⟨b, t, p1 μ1 H1 Ext.refl ok1⟩
  | err z I2 => exact absurd e (tru_calm _ _ _ _)
  | stuck => rw [e] at p1; exact p1.elim
theorem st_not {e : Expr} {f : TF} {pos : Pos} (h : ST X W e f) : ST X W (.UnaryOp .Not e pos) (notT f) := by
  refine pt_weak (pt_not h) fun σ H Q ⟨μ, ρ, I, rr, ok, p⟩ => ?_
  refine then_T rr ok p fun μ1 I1 H1 b e1 rr1 ok1 p1 => ?_
  exact p1 μ1 H1 Ext.refl ok1
/-- a chain of and, or: whatever its whole is -/
abbrev SW (X : Cx) (W : WX) (e : Expr) (f : TF) : Prop := PW X e (tT X W f)
theorem pw_weak {X : Cx} {e : Expr} {t t' : TT} (h : PW X e t) (m : ∀ σ H Q, t' σ H Q → t σ H Q) : PW X e t' := ⟨fun wh pins s σ H Q I q => h.run wh pins s σ H Q I (m σ H Q q)⟩
theorem sw_and {a b : Expr} {rest : List Expr} {f g : TF} {pos : Pos} (ha : ST X W a f) (hb : SW X W (.BoolOp .And (b :: rest) pos) g) : SW X W (.BoolOp .And (a :: b :: rest) pos) (andT f g) := by
  refine pw_weak (pw_and ha hb) fun σ H Q ⟨μ, ρ, I, rr, ok, p⟩ => ?_
  refine then_T rr ok p fun μ1 I1 H1 b e1 rr1 ok1 p1 => ?_
  cases b with
  | true => exact iteT ⟨μ1, ρ, I1, rr1, ok1, p1⟩
  | false => exact iteF (p1 μ1 H1 Ext.refl ok1)
theorem sw_or {a b : Expr} {rest : List Expr} {f g : TF} {pos : Pos} (ha : ST X W a f) (hb : SW X W (.BoolOp .Or (b :: rest) pos) g) : SW X W (.BoolOp .Or (a :: b :: rest) pos) (orT f g) := by
  refine pw_weak (pw_or ha hb) fun σ H Q ⟨μ, ρ, I, rr, ok, p⟩ => ?_
  refine then_T rr ok p fun μ1 I1 H1 b e1 rr1 ok1 p1 => ?_
  cases b with
  | true => exact iteT (p1 μ1 H1 Ext.refl ok1)
  | false => exact iteF ⟨μ1, ρ, I1, rr1, ok1, p1⟩
end
end MP
/-! MP5: statements by the trees' readings -/
namespace MP
open PySem PySem.Spec L2

/-! ### ends -/
def SPost (X : Cx) (W : WX) (De : Ends) (μ : List Addr) (I : MH) (H : Hp) : SRes → Prop
  | .nx ρ I' => ∀ μ' σ' H', Ext μ I H μ' I' H' → Ok X.K X.mg μ' I' H' → RepR X.K μ' I' H' ρ σ' → De.nx σ' H'
  | .ret d I' => ∀ μ' H' v, Ext μ I H μ' I' H' → Ok X.K X.mg μ' I' H' → RV X.K μ' I' H' d v → De.rt v H'
  | .brk ρ I' => ∀ μ' σ' H', Ext μ I H μ' I' H' → Ok X.K X.mg μ' I' H' → RepR X.K μ' I' H' ρ σ' → De.bk σ' H'
  | .cnt ρ I' => ∀ μ' σ' H', Ext μ I H μ' I' H' → Ok X.K X.mg μ' I' H' → RepR X.K μ' I' H' ρ σ' → De.ct σ' H'
  | .err x I' => ∀ μ' σ' H' c dd, Ext μ I H μ' I' H' → Ok X.K X.mg μ' I' H' → RepX X.K X.mg μ' I' H' x c dd → W c dd σ' H'
  | .stuck => False
def tS (X : Cx) (W : WX) (f : SF) : TS := fun De σ H => ∃ μ ρ I, RepR X.K μ I H ρ σ ∧ Ok X.K X.mg μ I H ∧ SPost X W De μ I H (f ρ I)
abbrev SS (X : Cx) (W : WX) (st : Stmt) (f : SF) : Prop := PS X st (tS X W f)
abbrev SSs (X : Cx) (W : WX) (st : List Stmt) (f : SF) : Prop := PSs X st (tS X W f)
theorem ps_weak {X : Cx} {e : Stmt} {t t' : TS} (h : PS X e t) (m : ∀ De σ H, t' De σ H → t De σ H) : PS X e t' := ⟨fun pins s σ H Q I q => h.run pins s σ H Q I (m Q σ H q)⟩
theorem pss_weak {X : Cx} {e : List Stmt} {t t' : TS} (h : PSs X e t) (m : ∀ De σ H, t' De σ H → t De σ H) : PSs X e t' := ⟨fun pins s σ H Q I q => h.run pins s σ H Q I (m Q σ H q)⟩

/-- (a place for a wish about W; nothing is wished) -/
def Flat (_ : WX) : Prop := True
section
variable {X : Cx} {W : WX} {De De' : Ends} {μ μ' : List Addr} {I I' : MH} {H H' : Hp}
theorem SPost.ext (e : Ext μ I H μ' I' H') {r : SRes} (p : SPost X W De μ I H r) : SPost X W De μ' I' H' r := by
  cases r with
  | nx ρ I2 => exact fun μ2 σ2 H2 e2 ok2 => p μ2 σ2 H2 (e.trans e2) ok2
  | ret d I2 => exact fun μ2 H2 v e2 ok2 => p μ2 H2 v (e.trans e2) ok2
  | brk ρ I2 => exact fun μ2 σ2 H2 e2 ok2 => p μ2 σ2 H2 (e.trans e2) ok2
  | cnt ρ I2 => exact fun μ2 σ2 H2 e2 ok2 => p μ2 σ2 H2 (e.trans e2) ok2
  | err x I2 => exact fun μ2 σ2 H2 c dd e2 ok2 => p μ2 σ2 H2 c dd (e.trans e2) ok2
  | stuck => exact p
/-- an expression's end within a statement -/
theorem bindS_post {α : Type} {r : Res α} {k : α → MH → SRes} (hW : Flat W) {σ : L2.St} (p : SPost X W De μ I H (r.bindS k)) :
    RPost X.K X.mg (fun c dd H' => W c dd σ H') μ I H (fun μ' I' H' a => SPost X W De μ' I' H' (k a I')) r := by
  cases r with
  | ok a I2 => exact fun μ2 H2 e2 ok2 => SPost.ext (r := k a I2) e2 p
  | err x I2 => exact fun μ2 H2 c dd e2 ok2 rx => p μ2 σ H2 c dd e2 ok2 rx
  | stuck => exact p
end


def nxS : SF := fun ρ I => .nx ρ I
def seqS (f g : SF) : SF := fun ρ I => match f ρ I with
  | .nx ρ1 I1 => g ρ1 I1
  | r => r
def ifS (t : TF) (f g : SF) : SF := fun ρ I => (t ρ I).bindS fun b I1 => if b then f ρ I1 else g ρ I1
def retS (f : EF) : SF := fun ρ I => (f ρ I).bindS fun d I1 => .ret d I1
def exprS (f : EF) : SF := fun ρ I => (f ρ I).bindS fun _ I1 => .nx ρ I1
def asgS (f : EF) (t : D → SF) : SF := fun ρ I => (f ρ I).bindS fun d I1 => t d ρ I1
def nameT (i : Nat) : D → SF := fun d ρ I => .nx (ρ.set i (some d)) I
def augS (i : Nat) (g : D → D → MH → Res D) (f : EF) : SF := fun ρ I => match ρ[i]? with
  | some (some x) => (f ρ I).bindS fun y I1 => (g x y I1).calm.bindS fun z I2 => .nx (ρ.set i (some z)) I2
  | _ => .stuck
def whileN (t : TF) (b : SF) : Nat → SF
  | 0 => fun _ _ => .stuck
  | n + 1 => fun ρ I => (t ρ I).bindS fun c I1 => if c then (match b ρ I1 with
      | .nx ρ2 I2 => whileN t b n ρ2 I2
      | .cnt ρ2 I2 => whileN t b n ρ2 I2
      | .brk ρ2 I2 => .nx ρ2 I2
      | r => r) else .nx ρ I1
def whileFuel : Nat := 100000000
def whileS (t : TF) (b : SF) : SF := whileN t b whileFuel

section
variable {X : Cx} {W : WX}
theorem ss_nil : SSs X W [] nxS := pss_weak pss_nil fun De σ H ⟨μ, ρ, I, rr, ok, p⟩ => p μ σ H Ext.refl ok rr
theorem ss_cons {st : Stmt} {rest : List Stmt} {f g : SF} (h1 : SS X W st f) (h2 : SSs X W rest g) : SSs X W (st :: rest) (seqS f g) := by
  refine pss_weak (pss_cons h1 h2) fun De σ H ⟨μ, ρ, I, rr, ok, p⟩ => ⟨μ, ρ, I, rr, ok, ?_⟩
  unfold seqS at p
  cases e : f ρ I with
  | nx ρ1 I1 => rw [e] at p; exact fun μ1 σ1 H1 e1 ok1 rr1 => ⟨μ1, ρ1, I1, rr1, ok1, SPost.ext e1 p⟩
  | ret d I1 => rw [e] at p; exact p
  | brk ρ1 I1 => rw [e] at p; exact p
  | cnt ρ1 I1 => rw [e] at p; exact p
  | err x I1 => rw [e] at p; exact p
  | stuck => rw [e] at p; exact p
theorem ss_if {c : Expr} {a b : List Stmt} {t : TF} {f g : SF} {pos : Pos} (hW : Flat W) (hc : ST X W c t) (ha : SSs X W a f) (hb : SSs X W b g) : SS X W (.If c a b pos) (ifS t f g) := by
  refine ps_weak (ps_if hc ha hb) fun De σ H ⟨μ, ρ, I, rr, ok, p⟩ => ?_
  refine ⟨μ, ρ, I, rr, ok, (bindS_post hW p).imp (fun μ1 I1 H1 b e1 ok1 q => ?_) fun _ _ _ z => z⟩
  cases b with
  | true => exact iteT ⟨μ1, ρ, I1, rr.ext e1 ok, ok1, q⟩
  | false => exact iteF ⟨μ1, ρ, I1, rr.ext e1 ok, ok1, q⟩
theorem ss_ret {e : Expr} {f : EF} {pos : Pos} (hW : Flat W) (h : SE X W e f) : SS X W (.Return (some e) pos) (retS f) := by
  refine ps_weak (ps_ret h) fun De σ H ⟨μ, ρ, I, rr, ok, p⟩ => ?_
  refine ⟨μ, ρ, I, rr, ok, (bindS_post hW p).imp (fun μ1 I1 H1 d e1 ok1 q v rv => ?_) fun _ _ _ z => z⟩
  exact q μ1 H1 v Ext.refl ok1 rv
theorem ss_retN {pos : Pos} : SS X W (.Return none pos) (fun _ I => .ret .non I) := ps_weak ps_retN fun De σ H ⟨μ, ρ, I, rr, ok, p⟩ => p μ H .non Ext.refl ok rfl
theorem ss_pass {pos : Pos} : SS X W (.Pass pos) nxS := ps_weak ps_pass fun De σ H ⟨μ, ρ, I, rr, ok, p⟩ => p μ σ H Ext.refl ok rr
theorem ss_break {pos : Pos} : SS X W (.Break pos) (fun ρ I => .brk ρ I) := ps_weak ps_break fun De σ H ⟨μ, ρ, I, rr, ok, p⟩ => p μ σ H Ext.refl ok rr
theorem ss_cont {pos : Pos} : SS X W (.Continue pos) (fun ρ I => .cnt ρ I) := ps_weak ps_continue fun De σ H ⟨μ, ρ, I, rr, ok, p⟩ => p μ σ H Ext.refl ok rr
theorem ss_expr {e : Expr} {f : EF} {pos : Pos} (hW : Flat W) (hn : notComp e = true) (h : SE X W e f) : SS X W (.Expr e pos) (exprS f) := by
  refine ps_weak (ps_expr h (noSwap hn)) fun De σ H ⟨μ, ρ, I, rr, ok, p⟩ => ?_
  refine ⟨μ, ρ, I, rr, ok, (bindS_post hW p).imp (fun μ1 I1 H1 d e1 ok1 q v rv => ?_) fun _ _ _ z => z⟩
  exact q μ1 σ H1 Ext.refl ok1 (rr.ext e1 ok)
theorem RepR.set {K : PySem.W.Frag} {μ : List Addr} {I : MH} {H : Hp} {ρ : En} {σ : L2.St} (r : RepR K μ I H ρ σ) {d : D} {v : V} (rd : RV K μ I H d v) (i : Nat) : RepR K μ I H (ρ.set i (some d)) (σ.set i (some v)) := by
  refine ⟨by rw [List.length_set, List.length_set]; exact r.1, fun j d' h => ?_⟩
  by_cases hj : i = j
  · subst hj
    obtain ⟨hlt, e⟩ := List.getElem?_eq_some_iff.mp h
    rw [List.length_set] at hlt
    rw [List.getElem?_set_self hlt] at h
    cases h
    exact ⟨v, List.getElem?_set_self (by rw [← r.1]; exact hlt), rd⟩
  · rw [List.getElem?_set_ne hj] at h ⊢
    exact r.2 j d' h
/-! targets -/
def tG (X : Cx) (W : WX) (t : D → SF) : TG := fun v σ H Q => ∃ μ ρ I d, RepR X.K μ I H ρ σ ∧ Ok X.K X.mg μ I H ∧ RV X.K μ I H d v ∧ SPost X W { nx := Q, rt := fun _ _ => False } μ I H (t d ρ I)
abbrev SG (X : Cx) (W : WX) (tg : Expr) (t : D → SF) : Prop := PG X tg (tG X W t)
theorem pg_weak {X : Cx} {e : Expr} {t t' : TG} (h : PG X e t) (m : ∀ v σ H Q, t' v σ H Q → t v σ H Q) : PG X e t' := ⟨fun pins s σ H v u Q I r q => h.run pins s σ H v u Q I r (m v σ H Q q)⟩
theorem sg_name {i : Nat} {x : Str} {pos : Pos} (hN : X.N.Nodup) (hi : X.N[i]? = some x) (hx : Loc X.env.scope x) (hf : X.fn x = true ∨ X.env.scope.names.lookup x = some .local) : SG X W (.Name x pos) (nameT i) :=
  pg_weak (pg_name hN hi hx hf) fun v σ H Q ⟨μ, ρ, I, d, rr, ok, rd, p⟩ => p μ _ H Ext.refl ok (rr.set rd i)
/-- several names in order -/
def namesT : List Nat → List D → SF
  | [], [] => fun ρ I => .nx ρ I
  | i :: is, d :: ds => fun ρ I => namesT is ds (ρ.set i (some d)) I
  | _, _ => fun _ _ => .stuck
def tupT (is : List Nat) : D → SF := fun d ρ I => match d with
  | .tup ds => namesT is ds ρ I
  | _ => .stuck
def isName : Expr → Option Str
  | .Name x _ => some x
  | _ => none
theorem namesT_len : ∀ (is : List Nat) (ds : List D) (ρ : En) (I : MH), namesT is ds ρ I ≠ .stuck → is.length = ds.length
  | [], [], _, _, _ => rfl
  | i :: is, d :: ds, ρ, I, h => by
    have := namesT_len is ds (ρ.set i (some d)) I h
    simp [this]
  | [], _ :: _, _, _, h => absurd rfl h
  | _ :: _, [], _, _, h => absurd rfl h
inductive NamesOk (X : Cx) : List Expr → List Nat → Prop
  | nil : NamesOk X [] []
  | cons {x : Str} {pos : Pos} {i : Nat} {es : List Expr} {is : List Nat} : X.N[i]? = some x → Loc X.env.scope x → (X.fn x = true ∨ X.env.scope.names.lookup x = some .local) → NamesOk X es is → NamesOk X (.Name x pos :: es) (i :: is)
def tGs (X : Cx) (W : WX) (is : List Nat) : TGs := fun vs σ H Q => ∃ μ ρ I ds, RepR X.K μ I H ρ σ ∧ Ok X.K X.mg μ I H ∧ RVs X.K μ I H ds vs ∧ SPost X W { nx := Q, rt := fun _ _ => False } μ I H (namesT is ds ρ I)
theorem pgs_weak {X : Cx} {e : List Expr} {t t' : TGs} (h : PGs X e t) (m : ∀ v σ H Q, t' v σ H Q → t v σ H Q) : PGs X e t' := ⟨fun pins s σ H v u Q I r q => h.run pins s σ H v u Q I r (m v σ H Q q)⟩
theorem sgs_names (hN : X.N.Nodup) : ∀ {es : List Expr} {is : List Nat}, NamesOk X es is → PGs X es (tGs X W is)
  | [], [], .nil => pgs_weak pgs_nil fun vs σ H Q ⟨μ, ρ, I, ds, rr, ok, rd, p⟩ => by
    cases ds with
    | nil => cases rd; exact ⟨rfl, p μ σ H Ext.refl ok rr⟩
    | cons d ds => exact p.elim
  | _ :: es, i :: is, .cons h1 h2 h3 h4 => by
    refine pgs_weak (pgs_cons (pg_name hN h1 h2 h3) (sgs_names hN h4)) fun vs σ H Q ⟨μ, ρ, I, ds, rr, ok, rd, p⟩ => ?_
    cases ds with
    | nil => exact p.elim
    | cons d ds =>
      obtain ⟨v, r, rfl, r1, r2⟩ := rd
      exact ⟨v, r, rfl, μ, _, I, ds, rr.set r1 i, ok, r2, p⟩
theorem each_len {X : Cx} : ∀ {es : List Expr} {is : List Nat}, NamesOk X es is → (assignEach es X.env).length = is.length
  | [], [], .nil => rfl
  | _ :: es, i :: is, .cons _ _ _ h => by
    show (assignEach es X.env).length + 1 = is.length + 1
    rw [each_len h]
theorem each_star {X : Cx} : ∀ {es : List Expr} {is : List Nat}, NamesOk X es is → (assignEach es X.env).findIdx? (·.1) = none
  | [], [], .nil => rfl
  | .Name x pos :: es, i :: is, .cons _ _ _ h => by
    show List.findIdx? (·.1) ((false, assign (.Name x pos) X.env) :: assignEach es X.env) = none
    rw [List.findIdx?_cons, each_star h]
    rfl
theorem sg_tup {es : List Expr} {is : List Nat} {n : Nat} {pos : Pos} (hc : X.calm = true) (hN : X.N.Nodup) (h : NamesOk X es is) : SG X W (.Tuple es n pos) (tupT is) := by
  refine pg_weak (pg_tup (n := is.length) hc (sgs_names (W := W) hN h) (each_len h) (each_star h)) fun v σ H Q ⟨μ, ρ, I, d, rr, ok, rd, p⟩ => ?_
  unfold tupT at p
  split at p
  · rename_i ds
    obtain ⟨a, vs, rfl, q1, r1⟩ := rd
    have hl := namesT_len is ds ρ I fun z => by rw [z] at p; exact p
    exact ⟨a, vs, rfl, q1, by rw [← RVs.length r1]; exact hl.symm, μ, ρ, I, ds, rr, ok, r1, p⟩
  · exact p.elim
/-- x[i] = .. of a list that has a cell -/
def setIx (o i v : D) (I : MH) : Res Unit :=
  match o, i with
  | .loc n, .int k => match I[n]? with
    | some (.lst xs) => match ixN xs.length k with
      | some j => .ok () (I.set n (.lst (xs.set j v)))
      | none => .stuck
    | _ => .stuck
  | _, _ => .stuck
def subT (fo fi : EF) : D → SF := fun d ρ I => (fo ρ I).bindS fun o I1 => (fi ρ I1).bindS fun i I2 => (setIx o i d I2).bindS fun _ I3 => .nx ρ I3
def isSub : Expr → Bool
  | .Subscript _ i _ => notSlice i
  | _ => false
theorem sg_sub {o i : Expr} {fo fi : EF} {pos : Pos} (hW : Flat W) (hs : notSlice i = true) (ho : SE X W o fo) (hi : SE X W i fi) : SG X W (.Subscript o i pos) (subT fo fi) := by
  refine pg_weak (pg_sub ho hi set_list (by intro v; cases i <;> first | rfl | cases hs)) fun v σ H Q ⟨μ, ρ, I, d, rr, ok, rd, p⟩ => ?_
  refine ⟨μ, ρ, I, rr, ok, (bindS_post hW p).imp (fun μ1 I1 H1 o' e1 ok1 q ov ro => ?_) fun _ _ _ z => z⟩
  refine ⟨μ1, ρ, I1, rr.ext e1 ok, ok1, (bindS_post hW q).imp (fun μ2 I2 H2 i' e2 ok2 q2 iv ri => ?_) fun _ _ _ z => z⟩
  have ro2 := RepV.ext e2 ok1 _ _ ro
  have rd2 := RepV.ext e2 ok1 _ _ (RepV.ext e1 ok _ _ rd)
  have rr2 := (rr.ext e1 ok).ext e2 ok1
  cases hr : setIx o' i' d I2 with
  | ok u I3 =>
    rw [hr] at q2
    unfold setIx at hr
    split at hr
    · rename_i n k
      split at hr
      · rename_i xs hx
        split at hr
        · rename_i j hj
          cases hr
          obtain ⟨a, rfl, ha⟩ := ro2
          cases ri
          obtain ⟨vs, hv, r1⟩ := ok2.cell n _ a hx ha
          have st := ok2.write (c' := .lst (xs.set j d)) (o := .lst (vs.set j v)) ha hx rfl rfl fun e => ⟨_, upd_same, RVs.set (RepV.ext e ok2 _ _ rd2) j (RepVs.ext e ok2 _ _ r1)⟩
          refine ⟨a, vs, k, j, rfl, rfl, hv, by rw [← RVs.length r1]; exact hj, ?_⟩
          exact q2 μ2 σ _ st.1 st.2 (rr2.ext st.1 ok2)
        · cases hr
      · cases hr
    · cases hr
  | err x I3 =>
    exfalso
    unfold setIx at hr
    repeat' (split at hr)
    all_goals cases hr
  | stuck => rw [hr] at q2; exact q2.elim
theorem ss_asg {tg e : Expr} {f : EF} {t : D → SF} {pos : Pos} (hW : Flat W) (hn : notComp e = true) (hsw : swappedStores [tg] e X.env = pure none) (h1 : (assignEach [tg] X.env).map (·.2) = [assign tg X.env]) (he : SE X W e f) (hg : SG X W tg t)
    (ht : ∀ d ρ I, (∃ ρ' I', t d ρ I = .nx ρ' I') ∨ (∃ x I', t d ρ I = .err x I') ∨ t d ρ I = .stuck) : SS X W (.Assign [tg] e pos) (asgS f t) := by
  refine ps_weak (ps_asg he hg (by unfold swapsWithSole; exact noSwap hn) hsw h1) fun De σ H ⟨μ, ρ, I, rr, ok, p⟩ => ?_
  refine ⟨μ, ρ, I, rr, ok, (bindS_post hW p).imp (fun μ1 I1 H1 d e1 ok1 q v rv => ?_) fun _ _ _ z => z⟩
  refine ⟨μ1, ρ, I1, d, rr.ext e1 ok, ok1, rv, ?_⟩
  rcases ht d ρ I1 with ⟨ρ', I', z⟩ | ⟨x, I', z⟩ | z
  · rw [z] at q ⊢; exact q
  · rw [z] at q ⊢; exact q
  · rw [z] at q; exact q.elim
theorem ss_set {x : Str} {i : Nat} {e : Expr} {f : EF} {pos pos' : Pos} (hW : Flat W) (hN : X.N.Nodup) (hi : X.N[i]? = some x) (hx : Loc X.env.scope x) (hf : X.fn x = true ∨ X.env.scope.names.lookup x = some .local) (hn : notComp e = true) (he : SE X W e f) :
    SS X W (.Assign [.Name x pos'] e pos) (asgS f (nameT i)) := by
  refine ps_weak (ps_set hN hi hx he (noSwap hn) hf) fun De σ H ⟨μ, ρ, I, rr, ok, p⟩ => ?_
  refine ⟨μ, ρ, I, rr, ok, (bindS_post hW p).imp (fun μ1 I1 H1 d e1 ok1 q v rv => ?_) fun _ _ _ z => z⟩
  exact q μ1 _ H1 Ext.refl ok1 ((rr.ext e1 ok).set rv i)
end
end MP
/-! MP6: loops, methods, in-place changes -/
namespace MP
open PySem PySem.Spec L2

section
variable {X : Cx} {W : WX}
theorem ss_while {c : Expr} {body : List Stmt} {t : TF} {f : SF} {pos : Pos} (hW : Flat W) (hp : PassesOwn (model X.prog X.w) X.A X.env X.xe) (hc : ST X W c t) (hb : SSs X W body f) : SS X W (.While c body [] pos) (whileS t f) := by
  refine ps_weak (ps_while hp hc hb) fun De σ H ⟨μ, ρ, I, rr, ok, p⟩ => ?_
  refine ⟨fun m σ H => ∃ μ ρ I, RepR X.K μ I H ρ σ ∧ Ok X.K X.mg μ I H ∧ SPost X W De μ I H (whileN t f m ρ I), ⟨whileFuel, μ, ρ, I, rr, ok, p⟩, ?_⟩
  rintro m σ H ⟨μ, ρ, I, rr, ok, p⟩
  cases m with
  | zero => exact p.elim
  | succ m =>
    refine ⟨μ, ρ, I, rr, ok, (bindS_post hW p).imp (fun μ1 I1 H1 b e1 ok1 q => ?_) fun _ _ _ z => z⟩
    cases b with
    | false => exact iteF (q μ1 σ H1 Ext.refl ok1 (rr.ext e1 ok))
    | true =>
      refine iteT ⟨fun σ' H' => ∃ μ ρ I, RepR X.K μ I H' ρ σ' ∧ Ok X.K X.mg μ I H' ∧ SPost X W De μ I H' (whileN t f m ρ I), fun σ' H' h => ⟨m, Nat.lt_succ_self m, h⟩, μ1, ρ, I1, rr.ext e1 ok, ok1, ?_⟩
      have q' : SPost X W De μ1 I1 H1 (match f ρ I1 with
        | .nx ρ2 I2 => whileN t f m ρ2 I2
        | .cnt ρ2 I2 => whileN t f m ρ2 I2
        | .brk ρ2 I2 => .nx ρ2 I2
        | r => r) := q
      cases e : f ρ I1 with
      | nx ρ2 I2 => rw [e] at q'; exact fun μ2 σ2 H2 e2 ok2 rr2 => ⟨μ2, ρ2, I2, rr2, ok2, SPost.ext e2 q'⟩
      | cnt ρ2 I2 => rw [e] at q'; exact fun μ2 σ2 H2 e2 ok2 rr2 => ⟨μ2, ρ2, I2, rr2, ok2, SPost.ext e2 q'⟩
      | brk ρ2 I2 => rw [e] at q'; exact q'
      | ret d I2 => rw [e] at q'; exact q'
      | err x I2 => rw [e] at q'; exact q'
      | stuck => rw [e] at q'; exact q'
end

/-! ### what is walked -/
structure Itr where
  items : List D
  watch : Option Nat
open Classical in
noncomputable def watchOk (ip : Itr) (I : MH) : Bool := match ip.watch with
  | none => true
  | some n => if I[n]? = some (.lst ip.items) then true else false
/-- the iterator of the layer does what the items say, wherever the world has gone from here -/
def ItSim (X : Cx) (μ : List Addr) (I : MH) (H : Hp) (J : It) (ip : Itr) : Prop :=
  ∀ μ' I' H', Ext μ I H μ' I' H' → Ok X.K X.mg μ' I' H' → watchOk ip I' = true → ∀ i : Nat,
    (∀ d, ip.items[i]? = some d → J.go i H' ∧ ∀ x H'', J.yld i H' x H'' → (∀ a o, H' a = some o → H'' a = some o) ∧ RV X.K μ' I' H'' d x) ∧ (ip.items.length ≤ i → J.stop i H')
abbrev IF := En → MH → Res Itr
def tI (X : Cx) (W : WX) (f : IF) : TI := fun σ H R => ∃ μ ρ I, RepR X.K μ I H ρ σ ∧ Ok X.K X.mg μ I H ∧ RPost X.K X.mg (fun c dd H' => W c dd σ H') μ I H (fun μ' I' H' ip => ∀ J, ItSim X μ' I' H' J ip → R J H') (f ρ I)
abbrev SI (X : Cx) (W : WX) (tg e : Expr) (f : IF) : Prop := PI X tg e (tI X W f)
theorem pi_weak {X : Cx} {tg e : Expr} {t t' : TI} (h : PI X tg e t) (m : ∀ σ H Q, t' σ H Q → t σ H Q) : PI X tg e t' := ⟨fun pins s σ H Q I q => h.run pins s σ H Q I (m σ H Q q)⟩
theorem pi_or {X : Cx} {tg e : Expr} {t t' : TI} (h : PI X tg e t) (h' : PI X tg e t') : PI X tg e (fun σ H R => t σ H R ∨ t' σ H R) :=
  ⟨fun pins s σ H Q I q => q.elim (h.run pins s σ H Q I) (h'.run pins s σ H Q I)⟩
/-- the items of a value that a for may walk -/
def itOf (I : MH) : D → Option Itr
  | .tup xs => some ⟨xs, none⟩
  | .lst xs => some ⟨xs, none⟩
  | .scr ns => some ⟨ns.map .int, none⟩
  | .loc n => match I[n]? with
    | some (.lst xs) => some ⟨xs, some n⟩
    | _ => none
  | .str s => some ⟨s.map fun c => .str [c], none⟩
  | _ => none
def seqI (f : EF) : IF := fun ρ I => (f ρ I).bind fun d I1 => optR I1 (itOf I1 d)
section
variable {X : Cx} {W : WX}
theorem it_list {μ : List Addr} {I : MH} {H : Hp} {d : D} {v : V} {ip : Itr} (ok : Ok X.K X.mg μ I H) (r : RV X.K μ I H d v) (h : itOf I d = some ip) (hs : ∀ xs, d ≠ .tup xs) (hs2 : ∀ s, d ≠ .str s) :
    ∃ a, v = .ref a ∧ (∃ xs, SqL X.K H a xs) ∧ ItSim X μ I H (Itl X.K a) ip := by
  cases d with
  | tup xs => exact absurd rfl (hs xs)
  | str s => exact absurd rfl (hs2 s)
  | lst xs =>
    obtain ⟨a, vs, rfl, h2, h3, h4⟩ := id r
    cases h
    refine ⟨a, rfl, ⟨vs, SqL.of h2⟩, fun μ' I' H' e' ok' _ i => ⟨fun d hd => ?_, fun hl => ?_⟩⟩
    · obtain ⟨b, ws, z, g2, g3, g4⟩ := RepV.ext e' ok _ _ r
      cases z
      obtain ⟨w, hw, rw'⟩ := RVs.get g4 hd
      refine ⟨⟨ws, w, SqL.of g2, hw⟩, fun x H'' ⟨e1, e2⟩ => ?_⟩
      subst e1
      refine ⟨fun _ _ z => z, ?_⟩
      have := e2 ws (SqL.of g2)
      rw [hw] at this
      cases this
      exact rw'
    · obtain ⟨b, ws, z, g2, g3, g4⟩ := RepV.ext e' ok _ _ r
      cases z
      exact ⟨ws, SqL.of g2, by rw [← RVs.length g4]; exact hl⟩
  | scr ns =>
    obtain ⟨a, rfl, h2⟩ := id r
    cases h
    refine ⟨a, rfl, ⟨_, h2.sql⟩, fun μ' I' H' e' ok' _ i => ⟨fun d hd => ?_, fun hl => ?_⟩⟩
    · obtain ⟨b, z, g2⟩ := RepV.ext e' ok _ _ r
      cases z
      have hd' : (ns.map D.int)[i]? = some d := hd
      rw [List.getElem?_map] at hd'
      cases hn : ns[i]? with
      | none => rw [hn] at hd'; cases hd'
      | some n =>
        rw [hn] at hd'
        cases hd'
        have hv : (ns.map V.int)[i]? = some (V.int n) := by rw [List.getElem?_map, hn]; rfl
        refine ⟨⟨_, _, g2.sql, hv⟩, fun x H'' ⟨e1, e2⟩ => ?_⟩
        subst e1
        refine ⟨fun _ _ z => z, ?_⟩
        have := e2 _ (g2.sql)
        rw [hv] at this
        cases this
        rfl
    · obtain ⟨b, z, g2⟩ := RepV.ext e' ok _ _ r
      cases z
      refine ⟨_, g2.sql, ?_⟩
      have : (ns.map D.int).length ≤ i := hl
      rw [List.length_map] at this ⊢
      exact this
  | loc n =>
    obtain ⟨a, rfl, h2⟩ := id r
    unfold itOf at h
    dsimp only at h
    split at h
    · rename_i xs hx
      cases h
      obtain ⟨vs, g1, g2⟩ := ok.cell n _ a hx h2
      refine ⟨a, rfl, ⟨vs, SqL.of g1⟩, fun μ' I' H' e' ok' wo i => ?_⟩
      have hc : I'[n]? = some (.lst xs) := by
        unfold watchOk at wo
        dsimp only at wo
        split at wo
        · assumption
        · cases wo
      obtain ⟨ws, k1, k2⟩ := ok'.cell n _ a hc (e'.pre n a h2)
      refine ⟨fun d hd => ?_, fun hl => ?_⟩
      · obtain ⟨w, hw, rw'⟩ := RVs.get k2 hd
        refine ⟨⟨ws, w, SqL.of k1, hw⟩, fun x H'' ⟨e1, e2⟩ => ?_⟩
        subst e1
        refine ⟨fun _ _ z => z, ?_⟩
        have := e2 ws (SqL.of k1)
        rw [hw] at this
        cases this
        exact rw'
      · exact ⟨ws, SqL.of k1, by rw [← RVs.length k2]; exact hl⟩
    · cases h
  | _ => cases h
theorem it_tup {μ : List Addr} {I : MH} {H : Hp} {xs : List D} {v : V} (ok : Ok X.K X.mg μ I H) (r : RV X.K μ I H (.tup xs) v) :
    ∃ a, v = .ref a ∧ (∃ xs, SqT X.K H a xs) ∧ ItSim X μ I H (Itt X.K a) ⟨xs, none⟩ := by
  obtain ⟨a, vs, rfl, h2, h4⟩ := id r
  refine ⟨a, rfl, ⟨vs, h2⟩, fun μ' I' H' e' ok' _ i => ⟨fun d hd => ?_, fun hl => ?_⟩⟩
  · obtain ⟨b, ws, z, g2, g4⟩ := RepV.ext e' ok _ _ r
    cases z
    obtain ⟨w, hw, rw'⟩ := RVs.get g4 hd
    refine ⟨⟨ws, w, g2, hw⟩, fun x H'' ⟨e1, e2⟩ => ?_⟩
    subst e1
    refine ⟨fun _ _ z => z, ?_⟩
    have := e2 ws g2
    rw [hw] at this
    cases this
    exact rw'
  · obtain ⟨b, ws, z, g2, g4⟩ := RepV.ext e' ok _ _ r
    cases z
    exact ⟨ws, g2, by rw [← RVs.length g4]; exact hl⟩
theorem si_seq {tg e : Expr} {f : EF} (h : SE X W e f) : SI X W tg e (seqI f) := by
  refine pi_weak (pi_or (pi_list h) (pi_or (pi_tup h) (pi_str h))) fun σ H R ⟨μ, ρ, I, rr, ok, p⟩ => ?_
  cases hf : f ρ I with
  | ok d I1 =>
    have p0 := p
    unfold seqI at p0
    rw [hf] at p0
    cases hi : itOf I1 d with
    | none =>
      have p1 : RPost X.K X.mg _ μ I H _ (optR I1 (itOf I1 d)) := p0
      rw [hi] at p1
      exact p1.elim
    | some ip =>
      have fin : ∀ μ1 H1, Ext μ I H μ1 I1 H1 → Ok X.K X.mg μ1 I1 H1 → ∀ J, ItSim X μ1 I1 H1 J ip → R J H1 := fun μ1 H1 e1 ok1 => by
        have p1 : RPost X.K X.mg _ μ I H _ (optR I1 (itOf I1 d)) := p0
        rw [hi] at p1
        exact p1 μ1 H1 e1 ok1
      have mk : ∀ {Q : VK}, (∀ μ1 H1 v, Ext μ I H μ1 I1 H1 → Ok X.K X.mg μ1 I1 H1 → RV X.K μ1 I1 H1 d v → Q v H1) → tE X W f σ H Q := fun {Q} hq => ⟨μ, ρ, I, rr, ok, by rw [hf]; exact fun μ1 H1 e1 ok1 v rv => hq μ1 H1 v e1 ok1 rv⟩
      cases d with
      | tup xs =>
        cases hi
        refine .inr (.inl (mk fun μ1 H1 v e1 ok1 rv => ?_))
        obtain ⟨a, h1, h2, h3⟩ := it_tup ok1 rv
        exact ⟨a, h1, h2, fin μ1 H1 e1 ok1 _ h3⟩
      | str s =>
        cases hi
        refine .inr (.inr (mk fun μ1 H1 v e1 ok1 rv => ?_))
        cases rv
        refine ⟨_, rfl, fin μ1 H1 e1 ok1 _ fun μ' I' H' e' ok' _ i => ⟨fun d hd => ?_, fun hl => ?_⟩⟩
        · have hd' : (s.map fun c => D.str [c])[i]? = some d := hd
          rw [List.getElem?_map] at hd'
          cases hc : s[i]? with
          | none => rw [hc] at hd'; cases hd'
          | some c =>
            rw [hc] at hd'; cases hd'
            have hlt := (List.getElem?_eq_some_iff.mp hc).1
            refine ⟨by show i < (toS s).length; rw [toS_length]; exact hlt, fun x H'' ⟨e1, c', hc', e2⟩ => ?_⟩
            subst e1 e2
            refine ⟨fun _ _ z => z, ?_⟩
            have e3 : (toS s).cps[i]? = some c := by show s.toArray[i]? = some c; simpa using hc
            rw [e3] at hc'
            cases hc'
            rfl
        · show (toS s).length ≤ i
          rw [toS_length]
          have : (s.map fun c => D.str [c]).length ≤ i := hl
          rw [List.length_map] at this
          exact this
      | lst xs =>
        refine .inl (mk fun μ1 H1 v e1 ok1 rv => ?_)
        obtain ⟨a, h1, h2, h3⟩ := it_list ok1 rv hi (by simp) (by simp)
        exact ⟨a, h1, h2, fin μ1 H1 e1 ok1 _ h3⟩
      | scr xs =>
        refine .inl (mk fun μ1 H1 v e1 ok1 rv => ?_)
        obtain ⟨a, h1, h2, h3⟩ := it_list ok1 rv hi (by simp) (by simp)
        exact ⟨a, h1, h2, fin μ1 H1 e1 ok1 _ h3⟩
      | loc xs =>
        refine .inl (mk fun μ1 H1 v e1 ok1 rv => ?_)
        obtain ⟨a, h1, h2, h3⟩ := it_list ok1 rv hi (by simp) (by simp)
        exact ⟨a, h1, h2, fin μ1 H1 e1 ok1 _ h3⟩
      | _ => cases hi
  | err x I1 =>
    refine .inl ⟨μ, ρ, I, rr, ok, ?_⟩
    unfold seqI at p
    rw [hf] at p ⊢
    exact p
  | stuck =>
    unfold seqI at p
    rw [hf] at p
    exact p.elim
end

/-! ranges -/
def rangeL (lo hi : Int) : List D := (List.range (hi - lo).toNat).map fun (i : Nat) => D.int (lo + (i : Int))
def rng1I (f : EF) : IF := fun ρ I => (f ρ I).bind fun x I1 => match x with
  | .int j => if decide (-(2 ^ 62) ≤ j ∧ j < 2 ^ 62) then .ok ⟨rangeL 0 j, none⟩ I1 else .stuck
  | _ => .stuck
def rng2I (f g : EF) : IF := fun ρ I => (f ρ I).bind fun x I1 => (g ρ I1).bind fun y I2 => match x, y with
  | .int i, .int j => if decide (-(2 ^ 62) ≤ i ∧ i < 2 ^ 62 ∧ -(2 ^ 62) ≤ j ∧ j < 2 ^ 62) then .ok ⟨rangeL i j, none⟩ I2 else .stuck
  | _, _ => .stuck
section
variable {X : Cx} {W : WX}
theorem it_range {μ : List Addr} {I : MH} {H : Hp} (lo hi : Int) : ItSim X μ I H (L2.Itr lo (hi - lo).toNat) ⟨rangeL lo hi, none⟩ := by
  intro μ' I' H' e ok _ i
  refine ⟨fun d hd => ?_, fun hl => ?_⟩
  · have hd' : (rangeL lo hi)[i]? = some d := hd
    unfold rangeL at hd'
    rw [List.getElem?_map] at hd'
    cases hr : (List.range (hi - lo).toNat)[i]? with
    | none => rw [hr] at hd'; cases hd'
    | some k =>
      rw [hr] at hd'
      cases hd'
      obtain ⟨h1, h2⟩ := List.getElem?_eq_some_iff.mp hr
      rw [List.getElem_range] at h2
      subst h2
      rw [List.length_range] at h1
      refine ⟨h1, fun x H'' ⟨e1, e2⟩ => ?_⟩
      subst e1 e2
      exact ⟨fun _ _ z => z, rfl⟩
  · have : (rangeL lo hi).length ≤ i := hl
    unfold rangeL at this
    rw [List.length_map, List.length_range] at this
    exact this
theorem si_range1 {tg a : Expr} {f : EF} {p pos : Pos} (hg : Gl X "range") (hm : X.mg "range" = none) (hn : notStar a = true) (ha : SE X W a f) : SI X W tg (.Call (.Name "range" p) [a] [] pos) (rng1I f) := by
  refine pi_weak (pi_range1 hg hm (pa_cons ha pa_nil (star_cons hn)) (star_cons hn)) fun σ H R ⟨μ, ρ, I, rr, ok, p⟩ => ?_
  refine then_E rr ok p fun μ1 I1 H1 d v e1 rr1 ok1 rd p1 => ?_
  split at p1
  · split at p1
    · rename_i j hj
      have hj := of_decide_eq_true hj
      cases rd
      refine ⟨j, rfl, hj.1, hj.2, p1 μ1 H1 Ext.refl ok1 _ ?_⟩
      have := it_range (X := X) (μ := μ1) (I := I1) (H := H1) 0 j
      rw [Int.sub_zero] at this
      exact this
    · exact p1.elim
  · exact p1.elim
theorem si_range2 {tg a b : Expr} {f g : EF} {p pos : Pos} (hg : Gl X "range") (hm : X.mg "range" = none) (hn : notStar a = true) (hn2 : notStar b = true) (ha : SE X W a f) (hb : SE X W b g) : SI X W tg (.Call (.Name "range" p) [a, b] [] pos) (rng2I f g) := by
  have s2 : starEach [b] X.env = [(false, eval b X.env)] := star_cons hn2
  refine pi_weak (pi_range2 hg hm (pa_cons ha (pa_cons hb pa_nil s2) (star_cons hn)) ((star_cons hn).trans (by rw [s2])) s2) fun σ H R ⟨μ, ρ, I, rr, ok, p⟩ => ?_
  refine then_E rr ok p fun μ1 I1 H1 d v e1 rr1 ok1 rd p1 => ?_
  refine then_E rr1 ok1 p1 fun μ2 I2 H2 d2 v2 e2 rr2 ok2 rd2 p2 => ?_
  split at p2
  · split at p2
    · rename_i i j hj
      have hj := of_decide_eq_true hj
      cases rd
      cases rd2
      exact ⟨i, j, rfl, hj, p2 μ2 H2 Ext.refl ok2 _ (it_range i j)⟩
    · exact p2.elim
  · exact p2.elim
end

/-! ### for -/
noncomputable def forL (ip : Itr) (t : D → SF) (b : SF) : List D → SF
  | [] => fun ρ I => if watchOk ip I then .nx ρ I else .stuck
  | x :: xs => fun ρ I => if watchOk ip I then (match t x ρ I with
      | .nx ρ1 I1 => (match b ρ1 I1 with
        | .nx ρ2 I2 => forL ip t b xs ρ2 I2
        | .cnt ρ2 I2 => forL ip t b xs ρ2 I2
        | .brk ρ2 I2 => .nx ρ2 I2
        | r => r)
      | .err x I1 => .err x I1
      | _ => .stuck) else .stuck
noncomputable def forS (it : IF) (t : D → SF) (b : SF) : SF := fun ρ I => (it ρ I).bindS fun ip I1 => forL ip t b ip.items ρ I1
section
variable {X : Cx} {W : WX}
theorem ss_for {tg iter : Expr} {body : List Stmt} {it : IF} {t : D → SF} {f : SF} {pos : Pos} (hW : Flat W) (hp : PassesOwn (model X.prog X.w) X.A X.env X.xe) (hc : X.calm = true) (hi : SI X W tg iter it) (hg : SG X W tg t) (hb : SSs X W body f) (hs : notSet iter = true) :
    SS X W (.For tg iter body [] pos) (forS it t f) := by
  refine ps_weak (ps_for hp hc hi hg hb (noFold hs)) fun De σ H ⟨μ, ρ, I, rr, ok, p⟩ => ?_
  refine ⟨μ, ρ, I, rr, ok, (bindS_post hW p).imp (fun μ0 I0 H0 ip e0 ok0 q J sim => ?_) fun _ _ _ z => z⟩
  refine ⟨fun i m σ H => m = ip.items.length - i ∧ i ≤ ip.items.length ∧ ∃ μ ρ I, RepR X.K μ I H ρ σ ∧ Ok X.K X.mg μ I H ∧ Ext μ0 I0 H0 μ I H ∧ SPost X W De μ I H (forL ip t f (ip.items.drop i) ρ I),
    ⟨_, rfl, Nat.zero_le _, μ0, ρ, I0, rr.ext e0 ok, ok0, Ext.refl, q⟩, ?_⟩
  rintro i m σ H ⟨rfl, hi, μ, ρ, I, rr, ok, e, p⟩
  by_cases hlt : i < ip.items.length
  · refine .inr ?_
    rw [List.drop_eq_getElem_cons hlt] at p
    unfold forL at p
    split at p
    · rename_i hw
      have hd : ip.items[i]? = some ip.items[i] := List.getElem?_eq_getElem hlt
      obtain ⟨go, yl⟩ := (sim μ I H e ok hw i).1 _ hd
      refine ⟨go, fun σ' H' => ∃ μ ρ I, RepR X.K μ I H' ρ σ' ∧ Ok X.K X.mg μ I H' ∧ Ext μ0 I0 H0 μ I H' ∧ SPost X W De μ I H' (forL ip t f (ip.items.drop (i + 1)) ρ I),
        fun σ' H' h => ⟨ip.items.length - (i + 1), by omega, rfl, hlt, h⟩, fun x H' hy => ?_⟩
      obtain ⟨sm, rx⟩ := yl x H' hy
      have ex : Ext μ I H μ I H' := Ext.same sm
      have okx : Ok X.K X.mg μ I H' := ok.same sm
      refine ⟨μ, ρ, I, _, rr.ext ex ok, okx, rx, ?_⟩
      have p := SPost.ext ex p
      cases ht : t ip.items[i] ρ I with
      | nx ρ1 I1 =>
        rw [ht] at p
        intro μ1 σ1 H1 e1 ok1 rr1
        refine ⟨μ1, ρ1, I1, rr1, ok1, ?_⟩
        have p := SPost.ext e1 p
        have e01 := e.trans (ex.trans e1)
        dsimp only at p
        cases hb2 : f ρ1 I1 with
        | nx ρ2 I2 => rw [hb2] at p; exact fun μ2 σ2 H2 e2 ok2 rr2 => ⟨μ2, ρ2, I2, rr2, ok2, e01.trans e2, SPost.ext e2 p⟩
        | cnt ρ2 I2 => rw [hb2] at p; exact fun μ2 σ2 H2 e2 ok2 rr2 => ⟨μ2, ρ2, I2, rr2, ok2, e01.trans e2, SPost.ext e2 p⟩
        | brk ρ2 I2 => rw [hb2] at p; exact p
        | ret d I2 => rw [hb2] at p; exact p
        | err x I2 => rw [hb2] at p; exact p
        | stuck => rw [hb2] at p; exact p
      | err x I1 => rw [ht] at p; exact p
      | ret d I1 => rw [ht] at p; exact p.elim
      | brk ρ1 I1 => rw [ht] at p; exact p.elim
      | cnt ρ1 I1 => rw [ht] at p; exact p.elim
      | stuck => rw [ht] at p; exact p.elim
    · exact p.elim
  · refine .inl ?_
    have he : i = ip.items.length := by omega
    subst he
    rw [List.drop_length] at p
    unfold forL at p
    split at p
    · rename_i hw
      exact ⟨(sim μ I H e ok hw _).2 (Nat.le_refl _), p μ σ H Ext.refl ok rr⟩
    · exact p.elim

/-! ### in place -/
theorem ip_of {op : Operator} {g : D → D → MH → Res D} (h : OpR X (inplaceOp op) (rS2 X g)) : PIp X op (rS2 X g) := fun pins s σ H x y v u Q I r1 r2 q => h pins s σ H x y v u Q I r1 r2 q
theorem addI_ok : OpR X (inplaceOp .Add) (rS2 X fun x y I => match x, y with
    | .int i, .int j => .ok (.int (i + j)) I
    | .str a, .str b => if small (a.length + b.length) then .ok (.str (a ++ b)) I else .stuck
    | _, _ => .stuck) := by
  intro pins s σ H x y v u Q Iv rx ry ⟨μ, I, d, e, ok, rd, re, p⟩
  dsimp only at p
  split at p
  · cases rd; cases re
    exact iop_add pins s σ H _ _ v u Q Iv rx ry ⟨_, _, rfl, rfl, fin0 ok p rfl⟩
  · split at p
    · rename_i h
      cases rd; cases re
      refine iop_add_str pins s σ H _ _ v u Q Iv rx ry ⟨_, _, rfl, rfl, ?_, ?_⟩
      · rw [toS_length, toS_length]; exact of_decide_eq_true h
      · rw [toS_append]; exact fin0 ok p rfl
    · exact p.elim
  · exact p.elim
def addI (x y : D) (I : MH) : Res D :=
  match x, y with
  | .int i, .int j => .ok (.int (i + j)) I
  | .str a, .str b => if small (a.length + b.length) then .ok (.str (a ++ b)) I else .stuck
  | _, _ => .stuck
theorem ss_aug {x : Str} {i : Nat} {e : Expr} {f : EF} {pos pos' : Pos} (hW : Flat W) (hN : X.N.Nodup) (hi : X.N[i]? = some x) (hx : Loc X.env.scope x) (hf : X.fn x = true ∨ X.env.scope.names.lookup x = some .local) (he : SE X W e f)
    (hd : (x == ("__debug__" : Str)) = false) (hcd : (x == ("__classdict__" : Str)) = false) : SS X W (.AugAssign (.Name x pos') .Add e pos) (augS i addI f) := by
  refine ps_weak (ps_aug hN hi hx he (ip_of addI_ok) hf) fun De σ H ⟨μ, ρ, I, rr, ok, p⟩ => ?_
  unfold augS at p
  split at p
  · rename_i d hd'
    obtain ⟨v, h1, h2⟩ := rr.2 i d hd'
    refine ⟨v, h1, μ, ρ, I, rr, ok, (bindS_post hW p).imp (fun μ1 I1 H1 e' e1 ok1 q w rw' => ?_) fun _ _ _ z => z⟩
    have rr1 := rr.ext e1 ok
    refine ⟨μ1, I1, d, e', ok1, RepV.ext e1 ok _ _ h2, rw', ?_⟩
    have q2 := bindS_post (σ := σ) hW q
    exact RPost.calm (W := fun c dd H' => W c dd σ H') (q2.imp (fun μ2 I2 H2 z e2 ok2 q3 zv rz => q3 μ2 _ H2 Ext.refl ok2 ((rr1.ext e2 ok1).set rz i)) fun _ _ _ z => z)
  · exact p.elim
end
end MP
/-! MP7: methods of built-in types, new cells, isinstance -/
namespace MP
open PySem PySem.Spec L2

def rSm (X : Cx) (g : D → List D → MH → Res D) : V → List V → Hp → VK → Prop := fun x xs H Q => ∃ μ I d ds, Ok X.K X.mg μ I H ∧ RV X.K μ I H d x ∧ RVs X.K μ I H ds xs ∧ RPost X.K X.mg W0 μ I H (sE X Q) (g d ds I)
def isStr : D → MH → Bool
  | .str _, _ => true
  | _, _ => false
def isLst (d : D) (I : MH) : Bool := (lstOf I d).isSome
def methE (p : D → MH → Bool) (g : D → List D → MH → Res D) (f : EF) (fs : List EF) : EF := fun ρ I => (f ρ I).bind fun x I1 => if p x I1 then (seqA fs ρ I1).bind fun xs I2 => (g x xs I2).calm else .stuck
theorem two_rep {K : PySem.W.Frag} {L : Addr → Prop} {μ : List Addr} {H : Hp} {d e : D} {vs : List V} (r : RepVs K L μ H [d, e] vs) : ∃ v w, vs = [v, w] ∧ RepV K L μ H d v ∧ RepV K L μ H e w := by
  obtain ⟨v, t, rfl, h, h2⟩ := r
  obtain ⟨w, rfl, h3⟩ := one_rep h2
  exact ⟨v, w, rfl, h, h3⟩
section
variable {X : Cx} {W : WX}
theorem ty_str {μ : List Addr} {I : MH} {H : Hp} {d : D} {v : V} (ok : Ok X.K X.mg μ I H) (r : RV X.K μ I H d v) (h : isStr d I = true) : tyV X.K "str" v H := by
  cases d <;> first | (cases h; done) | (cases r; rfl)
theorem ty_lst {μ : List Addr} {I : MH} {H : Hp} {d : D} {v : V} (ok : Ok X.K X.mg μ I H) (r : RV X.K μ I H d v) (h : isLst d I = true) : tyV X.K "list" v H := by
  unfold isLst at h
  cases e : lstOf I d with
  | none => rw [e] at h; cases h
  | some xs =>
    obtain ⟨a, vs, rfl, q, _⟩ := lstOf_ok ok r e
    exact .inl ⟨rfl, vs, SqL.of q⟩
theorem se_mt {T id : String} {name : Str} {p : D → MH → Bool} {g : D → List D → MH → Res D} {o e : Expr} {es : List Expr} {f : EF} {fs : List EF} {apos cpos : Pos}
    (pa : PlainAttrs T) (slot : Slot T name id) (hty : typeOf (.builtin id) = pure (.type "method_descriptor")) (hm : MtR X id (rSm X g))
    (hp : ∀ μ I H d v, Ok X.K X.mg μ I H → RV X.K μ I H d v → p d I = true → tyV X.K T v H) (ho : SE X W o f) (ha : SA X W (e :: es) (seqA fs))
    (hb : baseOk o = true) (hn : (e :: es).all notStar = true) (hl : decide ((e :: es).length < 30) = true) (hline : (apos.endLine == cpos.line) = true) :
    SE X W (.Call (.Attribute o name apos) (e :: es) [] cpos) (methE p g f fs) := by
  have hn' := Bool.and_eq_true_iff.mp (by rw [List.all_cons] at hn; exact hn)
  refine pe_weak (pe_bm pa slot hty hm ho ha (base_ok hb) ?_ hline (star_cons hn'.1) (star_any hn'.2)) fun σ H Q ⟨μ, ρ, I, rr, ok, q⟩ => ?_
  · rw [star_all hn]
    exact hl
  · refine then_E rr ok q fun μ1 I1 H1 d v e1 rr1 ok1 rd p1 => ?_
    split at p1
    · rename_i hpd
      refine ⟨hp _ _ _ _ _ ok1 rd hpd, ?_⟩
      refine then_A rr1 ok1 p1 fun μ2 I2 H2 ds vs e2 rr2 ok2 rds p2 => ?_
      exact ⟨μ2, I2, d, ds, ok2, RepV.ext e2 ok1 _ _ rd, rds, p2.calm⟩
    · exact p1.elim
theorem find_ok : MtR X "str.find" (rSm X findD) := by
  intro pins s σ H x xs v us Q Iv rx rs ⟨μ, I, d, ds, ok, rd, rds, p⟩
  unfold findD at p
  split at p
  · cases rd
    obtain ⟨a, b, rfl, ra, rb⟩ := two_rep rds
    cases ra; cases rb
    exact mt_find3 pins s σ H _ _ v us Q Iv rx rs ⟨_, _, _, rfl, rfl, fin0 ok p rfl⟩
  · cases rd
    obtain ⟨a, rfl, ra⟩ := one_rep rds
    cases ra
    exact mt_find pins s σ H _ _ v us Q Iv rx rs ⟨_, _, rfl, rfl, fin0 ok p rfl⟩
  · exact p.elim
theorem endswith_ok : MtR X "str.endswith" (rSm X endswithD) := by
  intro pins s σ H x xs v us Q Iv rx rs ⟨μ, I, d, ds, ok, rd, rds, p⟩
  unfold endswithD at p
  split at p
  · cases rd
    obtain ⟨a, rfl, ra⟩ := one_rep rds
    cases ra
    exact mt_endswith pins s σ H _ _ v us Q Iv rx rs ⟨_, _, rfl, rfl, fin0 ok p rfl⟩
  · exact p.elim
theorem startswith_ok : MtR X "str.startswith" (rSm X startswithD) := by
  intro pins s σ H x xs v us Q Iv rx rs ⟨μ, I, d, ds, ok, rd, rds, p⟩
  unfold startswithD at p
  split at p
  · cases rd
    obtain ⟨a, rfl, ra⟩ := one_rep rds
    cases ra
    exact mt_startswith pins s σ H _ _ v us Q Iv rx rs ⟨_, _, rfl, rfl, fin0 ok p rfl⟩
  · exact p.elim
theorem strs_rep {K : PySem.W.Frag} {L : Addr → Prop} {μ : List Addr} {H : Hp} : ∀ {ds : List D} {vs : List V} {ss : List (List Nat)}, strsOf ds = some ss → RepVs K L μ H ds vs → vs = (ss.map toS).map V.str
  | [], _, _, h, r => by cases h; cases r; rfl
  | d :: ds, vs, ss, h, r => by
    obtain ⟨v, t, rfl, r1, r2⟩ := r
    cases d with
    | str s =>
      unfold strsOf at h
      cases e : strsOf ds with
      | none => rw [e] at h; cases h
      | some cs =>
        rw [e] at h; cases h
        cases r1
        rw [strs_rep e r2]
        rfl
    | _ => cases h
theorem map_tl : ∀ ss : List (List Nat), (ss.map toS).map TL.tl = ss
  | [] => rfl
  | s :: ss => by
    show TL.tl (toS s) :: (ss.map toS).map TL.tl = s :: ss
    rw [map_tl ss]
    rfl
theorem join_toS (s : List Nat) (ss : List (List Nat)) : Txt.join (toS s) (ss.map toS) = toS (TL.joinL s ss) := by
  apply TL.ext_tl
  rw [TL.join_eq, TL.tl_join, map_tl]
  rfl
theorem join_ok : MtR X "str.join" (rSm X joinD) := by
  intro pins s σ H x xs v us Q Iv rx rs ⟨μ, I, d, ds, ok, rd, rds, p⟩
  unfold joinD at p
  split at p
  · rename_i z y
    split at p
    · rename_i ss e1
      split at p
      · rename_i hz
        cases rd
        obtain ⟨a, rfl, ra⟩ := one_rep rds
        cases e2 : lstOf I y with
        | none => rw [e2] at e1; cases e1
        | some ys =>
          rw [e2] at e1
          obtain ⟨b, vs, rfl, q1, r1⟩ := lstOf_ok ok ra e2
          have e3 := strs_rep (ss := ss) e1 r1
          subst e3
          refine mt_join pins s σ H _ _ v us Q Iv rx rs ⟨_, b, ss.map toS, rfl, rfl, .inl (SqL.of q1), ?_, ?_⟩
          · rw [List.map_map, List.length_map, toS_length]
            have : (Str.length ∘ toS) = List.length := funext toS_length
            have h' := of_decide_eq_true hz
            show (ss.map (Str.length ∘ toS)).sum + ss.length * z.length ≤ 16777216
            rw [this, Nat.mul_comm]
            exact h'
          · rw [join_toS]
            exact fin0 ok p rfl
      · exact p.elim
    · exact p.elim
  · exact p.elim
theorem append_ok : MtR X "list.append" (rSm X appendD) := by
  intro pins s σ H x xs v us Q Iv rx rs ⟨μ, I, d, ds, ok, rd, rds, p⟩
  unfold appendD at p
  split at p
  · rename_i n d
    split at p
    · rename_i ys hy
      split at p
      · rename_i hz
        obtain ⟨a, rfl, ha⟩ := rd
        obtain ⟨w, rfl, rw'⟩ := one_rep rds
        obtain ⟨vs, hv, r1⟩ := ok.cell n _ a hy ha
        have st := ok.write (c' := .lst (ys ++ [d])) (o := .lst (vs ++ [w])) ha hy rfl rfl fun e => ⟨_, upd_same, RVs.append (RepVs.ext e ok _ _ r1) ⟨w, [], rfl, RepV.ext e ok _ _ rw', rfl⟩⟩
        refine mt_append pins s σ H _ _ v us Q Iv rx rs ⟨a, vs, w, rfl, rfl, hv, ?_, ?_⟩
        · rw [← RVs.length r1]; exact of_decide_eq_true hz
        · exact p μ _ st.1 st.2 _ rfl
      · exact p.elim
    · exact p.elim
  · exact p.elim
theorem extend_ok : MtR X "list.extend" (rSm X extendD) := by
  intro pins s σ H x xs v us Q Iv rx rs ⟨μ, I, d, ds, ok, rd, rds, p⟩
  unfold extendD at p
  split at p
  · rename_i n d
    split at p
    · rename_i ys zs hy hz'
      split at p
      · rename_i hz
        obtain ⟨a, rfl, ha⟩ := rd
        obtain ⟨w, rfl, rw'⟩ := one_rep rds
        obtain ⟨vs, hv, r1⟩ := ok.cell n _ a hy ha
        obtain ⟨b, ws, rfl, q2, r2⟩ := lstOf_ok ok rw' hz'
        have st := ok.write (c' := .lst (ys ++ zs)) (o := .lst (vs ++ ws)) ha hy rfl rfl fun e => ⟨_, upd_same, RVs.append (RepVs.ext e ok _ _ r1) (RepVs.ext e ok _ _ r2)⟩
        refine mt_extend pins s σ H _ _ v us Q Iv rx rs ⟨a, b, vs, ws, rfl, rfl, hv, q2, ?_, ?_⟩
        · rw [← RVs.length r1, ← RVs.length r2]; exact of_decide_eq_true hz
        · exact p μ _ st.1 st.2 _ rfl
      · exact p.elim
    · exact p.elim
  · exact p.elim

/-! ### a new cell -/
def lstM (fs : List EF) : EF := fun ρ I => (seqA fs ρ I).bind fun xs I1 => if small xs.length then .ok (.loc I1.length) (I1 ++ [.lst xs]) else .stuck
theorem se_lstM {es : List Expr} {fs : List EF} {pos : Pos} (h : SA X W es (seqA fs)) : SE X W (.List es pos) (lstM fs) := by
  refine pe_weak (pe_lst h) fun σ H Q ⟨μ, ρ, I, rr, ok, p⟩ => ?_
  refine then_A rr ok p fun μ1 I1 H1 ds vs e1 rr1 ok1 rd p1 => ?_
  split at p1
  · rename_i hz
    refine ⟨by rw [← RVs.length rd]; exact of_decide_eq_true hz, fun q hq => ?_⟩
    have st := ok1.alloc (c := .lst ds) (H' := upd H1 q (.lst vs)) hq (same_upd hq) fun e => ⟨vs, upd_same, RepVs.ext e ok1 _ _ rd⟩
    refine p1 _ _ st.1 st.2 _ ⟨q, rfl, ?_⟩
    rw [← ok1.len]
    simp
  · exact p1.elim

/-! ### isinstance of a built-in class -/
def tyName (I : MH) : D → Option String
  | .non => some "NoneType"
  | .bl _ => some "bool"
  | .int _ => some "int"
  | .str _ => some "str"
  | .tup _ => some "tuple"
  | .lst _ => some "list"
  | .scr _ => some "list"
  | .loc n => match I[n]? with
    | some (.lst _) => some "list"
    | some (.dct _) => some "dict"
    | _ => none
def isiT (t T : String) : Bool := t == T || (t == "bool" && T == "int")
def isiD (T : String) (d : D) (I : MH) : Res D := match tyName I d with
  | some t => .ok (.bl (isiT t T)) I
  | none => .stuck
def kinds : List String := ["NoneType", "bool", "int", "str", "tuple", "list", "dict"]
def asked : List String := ["bool", "int", "str", "tuple", "list", "dict"]
theorem kit_all : (kinds.all fun t => asked.all fun T => kitB t T == some (isiT t T)) = true := by decide +kernel
theorem kit_of' {K : PySem.W.Frag} {t T : String} (ht : t ∈ kinds) (hT : T ∈ asked) : PySem.W.kitOne K (.type t) (.type T) = some (isiT t T) := by
  have h := List.all_eq_true.mp (List.all_eq_true.mp kit_all t ht) T hT
  exact kit_ty (eq_of_beq h)
theorem ty_rep {μ : List Addr} {I : MH} {H : Hp} {d : D} {v : V} {t : String} (ok : Ok X.K X.mg μ I H) (r : RV X.K μ I H d v) (h : tyName I d = some t) : t ∈ kinds ∧ TyX X.K H v (.type t) := by
  cases d with
  | non => cases h; cases r; exact ⟨by decide, .base .non⟩
  | bl b => cases h; cases r; exact ⟨by decide, .base (.bl b)⟩
  | int i => cases h; cases r; exact ⟨by decide, .base (.int i)⟩
  | str s => cases h; cases r; exact ⟨by decide, .base (.str _)⟩
  | tup xs =>
    cases h
    obtain ⟨a, vs, rfl, q, _⟩ := r
    refine ⟨by decide, ?_⟩
    rcases q with (q | ⟨o, q⟩) | ⟨o, its, n, q, c, _⟩
    · exact .base (.tup q)
    · exact .fTuple q
    · exact .kTuple q c
  | lst xs =>
    cases h
    obtain ⟨a, vs, rfl, q, _⟩ := r
    exact ⟨by decide, .base (.lst q)⟩
  | scr ns =>
    cases h
    obtain ⟨a, rfl, q⟩ := r
    refine ⟨by decide, ?_⟩
    rcases q with (⟨o, q⟩ | ⟨o, its, n, q, c, _⟩) | ⟨q, _⟩
    · exact .base (.frz q)
    · exact .kList q c
    · exact .base (.lst q)
  | loc n =>
    unfold tyName at h
    dsimp only at h
    split at h
    · rename_i xs e
      cases h
      obtain ⟨a, rfl, ha⟩ := r
      obtain ⟨vs, q, _⟩ := ok.cell n _ a e ha
      exact ⟨by decide, .base (.lst q)⟩
    · rename_i xs e
      cases h
      obtain ⟨a, rfl, ha⟩ := r
      obtain ⟨vs, q, _⟩ := ok.cell n _ a e ha
      exact ⟨by decide, .base (.dK q)⟩
    · cases h
theorem se_isi {T : String} {a : Expr} {f : EF} {p p2 pos : Pos} (hg : Gl X "isinstance") (hm : X.mg "isinstance" = none) (hgT : Gl X (Str.ofString T)) (hmT : X.mg (Str.ofString T) = none) (hv : bootBuiltins (Str.ofString T) = some (.type T)) (hT : T ∈ asked)
    (hn1 : Str.ofString T ≠ "__name__") (hdb : (Str.ofString T == ("__debug__" : Str)) = false) (hn : notStar a = true) (ha : SE X W a f) : SE X W (.Call (.Name "isinstance" p) [a, .Name (Str.ofString T) p2] [] pos) (un1 (isiD T) f) := by
  have hT2 : PE X (.Name (Str.ofString T) p2) (tC (.ty T)) := pe_bltn hgT hmT hv rfl hn1 hdb
  have hA := pa_cons ha (pa_cons hT2 pa_nil) (star_cons hn)
  refine pe_weak (pe_callB call_isi hg hm (by decide +kernel) hA (by decide) (by decide) (star_cons hn) rfl) fun σ H Q ⟨μ, ρ, I, rr, ok, q⟩ => ?_
  refine then_E rr ok q fun μ1 I1 H1 d v e1 rr1 ok1 rd p1 => ?_
  unfold isiD at p1
  split at p1
  · rename_i t ht
    obtain ⟨h1, h2⟩ := ty_rep ok1 rd ht
    exact ⟨v, .ty T, .type t, .type T, _, rfl, .ty T, h2, kit_of' h1 hT, fin0 ok1 p1 rfl⟩
  · exact p1.elim
end
end MP
/-! MP8: list comprehensions; what a call leaves behind -/
namespace MP
open PySem PySem.Spec L2

open Classical in
noncomputable def trim (I : MH) (d : D) (I' : MH) : MH := if d.under I.length = true ∧ Tidy I.length I I' then I'.take I.length else I'
theorem trim_ok {K : PySem.W.Frag} {mg : Str → Option Value} {μ μ' : List Addr} {I I' : MH} {H H' : Hp} {d : D} {v : V} (ok : Ok K mg μ I H) (ok' : Ok K mg μ' I' H') (e : Ext μ I H μ' I' H') (r : RV K μ' I' H' d v) :
    ∃ μ'', Ext μ I H μ'' (trim I d I') H' ∧ Ok K mg μ'' (trim I d I') H' ∧ RV K μ'' (trim I d I') H' d v := by
  unfold trim
  split
  · rename_i h
    have c := ok.cut ok' e h.2
    exact ⟨μ'.take I.length, c.1, c.2, RepV.cut d v h.1 r⟩
  · exact ⟨μ', e, ok', r⟩
/-- a fresh list that is handed back becomes data; then the rest is forgotten -/
noncomputable def fin (I : MH) (d : D) (I' : MH) : Res D :=
  match d with
  | .loc n => if I.length ≤ n then (match I'[n]? with
      | some (.lst xs) => .ok (.lst xs) (trim I (.lst xs) (I'.set n .dead))
      | _ => .ok d (trim I d I')) else .ok d (trim I d I')
  | .tup [.str a, .loc n] => if I.length ≤ n then (match I'[n]? with
      | some (.lst xs) => .ok (.tup [.str a, .lst xs]) (trim I (.tup [.str a, .lst xs]) (I'.set n .dead))
      | _ => .ok d (trim I d I')) else .ok d (trim I d I')
  | _ => .ok d (trim I d I')
theorem fin_ok {K : PySem.W.Frag} {mg : Str → Option Value} {μ μ' : List Addr} {I I' : MH} {H H' : Hp} {d : D} {v : V} (ok : Ok K mg μ I H) (ok' : Ok K mg μ' I' H') (e : Ext μ I H μ' I' H') (r : RV K μ' I' H' d v) :
    ∃ d' I'' μ'', fin I d I' = .ok d' I'' ∧ Ext μ I H μ'' I'' H' ∧ Ok K mg μ'' I'' H' ∧ RV K μ'' I'' H' d' v := by
  have plain : ∃ d' I'' μ'', (Res.ok d (trim I d I') : Res D) = .ok d' I'' ∧ Ext μ I H μ'' I'' H' ∧ Ok K mg μ'' I'' H' ∧ RV K μ'' I'' H' d' v := by
    obtain ⟨μ'', h1, h2, h3⟩ := trim_ok ok ok' e r
    exact ⟨d, _, μ'', rfl, h1, h2, h3⟩
  unfold fin
  split
  · rename_i n
    split
    · split
      · rename_i xs hx
        obtain ⟨a, rfl, ha⟩ := r
        obtain ⟨e2, ok2, r2⟩ := ok'.freeze ha hx
        obtain ⟨μ'', h1, h2, h3⟩ := trim_ok ok ok2 (e.trans e2) r2
        exact ⟨_, _, μ'', rfl, h1, h2, h3⟩
      · exact plain
    · exact plain
  · rename_i s n
    split
    · split
      · rename_i xs hx
        obtain ⟨a, vs, rfl, q, r1⟩ := id r
        obtain ⟨v1, v2, rfl, g1, g2⟩ := two_rep r1
        obtain ⟨b, rfl, hb⟩ := g2
        obtain ⟨e2, ok2, r2⟩ := ok'.freeze hb hx
        have r3 : RV K μ' (I'.set n .dead) H' (.tup [.str s, .lst xs]) (.ref a) := ⟨a, _, rfl, e2.sqt ok' q, v1, [.ref b], rfl, RepV.ext e2 ok' _ _ g1, .ref b, [], rfl, r2, rfl⟩
        obtain ⟨μ'', h1, h2, h3⟩ := trim_ok ok ok2 (e.trans e2) r3
        exact ⟨_, _, μ'', rfl, h1, h2, h3⟩
      · exact plain
    · exact plain
  · exact plain

/-! ### [e for t in it if c] -/
def wipeR (ρ : En) : List Nat → En
  | [] => ρ
  | v :: vs => (wipeR ρ vs).set v none
theorem RepR.wipe {K : PySem.W.Frag} {μ : List Addr} {I : MH} {H : Hp} {ρ : En} {σ : L2.St} (r : RepR K μ I H ρ σ) : ∀ vs : List Nat, RepR K μ I H (wipeR ρ vs) (wipe σ vs)
  | [] => r
  | v :: vs => by
    have ih := RepR.wipe r vs
    refine ⟨by show ((wipeR ρ vs).set v none).length = ((L2.wipe σ vs).set v none).length; rw [List.length_set, List.length_set]; exact ih.1, fun j d h => ?_⟩
    have h' : ((wipeR ρ vs).set v none)[j]? = some (some d) := h
    show ∃ w, ((L2.wipe σ vs).set v none)[j]? = some (some w) ∧ _
    by_cases hj : v = j
    · subst hj
      obtain ⟨hlt, _⟩ := List.getElem?_eq_some_iff.mp h'
      rw [List.length_set] at hlt
      rw [List.getElem?_set_self hlt] at h'
      cases h'
    · rw [List.getElem?_set_ne hj] at h' ⊢
      exact ih.2 j d h'
abbrev CTF := D → En → Option En
def GOK (X : Cx) (g : TG) (t : CTF) (own : List Nat) : Prop := ∀ μ ρ I d v σ H ρ', RepR X.K μ I H ρ σ → Ok X.K X.mg μ I H → RV X.K μ I H d v → t d ρ = some ρ' → ∀ Q : L2.St → Hp → Prop, (∀ σ', RepR X.K μ I H ρ' σ' → wipe σ' own = wipe σ own → Q σ' H) → g v σ H Q
def ctName (i : Nat) : CTF := fun d ρ => some (ρ.set i (some d))
theorem wipe_set {σ : L2.St} {i : Nat} {x : Option V} : ∀ {vs : List Nat}, i ∈ vs → wipe (σ.set i x) vs = wipe σ vs
  | [], h => by cases h
  | v :: vs, h => by
    show (wipe (σ.set i x) vs).set v none = (wipe σ vs).set v none
    by_cases hm : i ∈ vs
    · rw [wipe_set hm]
    · have hv : i = v := by
        rcases List.mem_cons.mp h with z | z
        · exact z
        · exact absurd z hm
      subst hv
      have key : ∀ (ws : List Nat), i ∉ ws → wipe (σ.set i x) ws = (wipe σ ws).set i x := by
        intro ws
        induction ws with
        | nil => intro _; rfl
        | cons w ws ih =>
          intro hn
          have h1 : i ≠ w := fun z => hn (by rw [z]; exact List.mem_cons_self)
          have h2 : i ∉ ws := fun z => hn (List.mem_cons_of_mem _ z)
          show (wipe (σ.set i x) ws).set w none = ((wipe σ ws).set w none).set i x
          rw [ih h2, List.set_comm _ _ h1]
      rw [key vs hm, List.set_set]
theorem gok_name {X : Cx} {i : Nat} {own : List Nat} (h : i ∈ own) : GOK X (gName i) (ctName i) own := by
  intro μ ρ I d v σ H ρ' rr ok rd ht Q hQ
  cases ht
  exact hQ _ (rr.set rd i) (wipe_set h)
def namesO : List Nat → List D → En → Option En
  | [], [], ρ => some ρ
  | i :: is, d :: ds, ρ => namesO is ds (ρ.set i (some d))
  | _, _, _ => none
def ctTup (is : List Nat) : CTF := fun d ρ => match d with
  | .tup ds => namesO is ds ρ
  | _ => none
def gNames : List Nat → TGs
  | [] => gNil
  | i :: is => gCons (gName i) (gNames is)
theorem gok_names {X : Cx} {own : List Nat} : ∀ {is : List Nat}, (∀ i ∈ is, i ∈ own) → ∀ {μ ρ I ds vs σ H ρ'}, RepR X.K μ I H ρ σ → Ok X.K X.mg μ I H → RVs X.K μ I H ds vs → namesO is ds ρ = some ρ' → is.length = vs.length ∧ ∀ Q : L2.St → Hp → Prop, (∀ σ', RepR X.K μ I H ρ' σ' → wipe σ' own = wipe σ own → Q σ' H) → gNames is vs σ H Q
  | [], _, μ, ρ, I, ds, vs, σ, H, ρ', rr, ok, rd, h => by
    cases ds with
    | nil => cases h; cases rd; exact ⟨rfl, fun Q hQ => ⟨rfl, hQ _ rr rfl⟩⟩
    | cons d ds => cases h
  | i :: is, hi, μ, ρ, I, ds, vs, σ, H, ρ', rr, ok, rd, h => by
    cases ds with
    | nil => cases h
    | cons d ds =>
      obtain ⟨v, r, rfl, r1, r2⟩ := rd
      obtain ⟨hl, hq⟩ := gok_names (is := is) (fun j hj => hi j (List.mem_cons_of_mem _ hj)) (rr.set r1 i) ok r2 h
      refine ⟨by simp [hl], fun Q hQ => ⟨v, r, rfl, hq _ fun σ' rr' hw => hQ σ' rr' ?_⟩⟩
      rw [hw, wipe_set (hi i List.mem_cons_self)]
theorem gok_tup {X : Cx} {is own : List Nat} (h : ∀ i ∈ is, i ∈ own) : GOK X (gTup X.K is.length (gNames is)) (ctTup is) own := by
  intro μ ρ I d v σ H ρ' rr ok rd ht Q hQ
  unfold ctTup at ht
  split at ht
  · obtain ⟨a, vs, rfl, q, r1⟩ := rd
    obtain ⟨hl, hq⟩ := gok_names (X := X) h rr ok r1 ht
    exact ⟨a, vs, rfl, q, hl.symm, hq _ hQ⟩
  · cases ht

noncomputable def lcL (ip : Itr) (n : Nat) (ρ0 : En) (t : CTF) (tt : TF) (te : EF) : List D → MH → Res Unit
  | [], I => if watchOk ip I then .ok () I else .stuck
  | x :: xs, I => if watchOk ip I then (match t x ρ0 with
      | none => .stuck
      | some ρ1 => (tt ρ1 I).calm.bind fun b I1 => if b then (te ρ1 I1).calm.bind fun y I2 => (match I2[n]? with
          | some (.lst acc) => if decide (acc.length < sizeLine) then lcL ip n ρ0 t tt te xs (I2.set n (.lst (acc ++ [y]))) else .stuck
          | _ => .stuck) else lcL ip n ρ0 t tt te xs I1) else .stuck
noncomputable def lcE (it : IF) (own : List Nat) (t : CTF) (tt : TF) (te : EF) : EF := fun ρ I =>
  (it ρ I).bind fun ip I1 => (lcL ip I1.length (wipeR ρ own) t tt te ip.items (I1 ++ [.lst []])).bind fun _ I2 => fin I1 (.loc I1.length) I2
/-- as a cell that stays -/
noncomputable def lcM (it : IF) (own : List Nat) (t : CTF) (tt : TF) (te : EF) : EF := fun ρ I =>
  (it ρ I).bind fun ip I1 => (lcL ip I1.length (wipeR ρ own) t tt te ip.items (I1 ++ [.lst []])).bind fun _ I2 => .ok (.loc I1.length) I2
def yesT : TF := fun _ I => .ok true I
section
variable {X : Cx} {W : WX}
/-- the loop: its reading by the layer from the reading by trees -/
theorem lc_loop {σ : L2.St} {ρ0 : En} {g : TG} {t : CTF} {tt : TT} {tte : TE} {ttf : TF} {te : EF} {own : List Nat} {ip : Itr} {μ1 : List Addr} {I1 : MH} {H1 : Hp} {J : It} {Q : VK} {S : List Addr → MH → Hp → Unit → Prop}
    (sim : ItSim X μ1 I1 H1 J ip) (rr1 : RepR X.K μ1 I1 H1 ρ0 (wipe σ own)) (ok1 : Ok X.K X.mg μ1 I1 H1) (hg : GOK X g t own)
    (htt : ∀ σ H Q, tT X (fun _ _ _ _ => False) ttf σ H Q → tt σ H Q) (hte : ∀ σ H Q, tE X (fun _ _ _ _ => False) te σ H Q → tte σ H Q)
    {W' : Value → Option Addr → Hp → Prop} (p : RPost X.K X.mg W' μ1 I1 H1 S (lcL ip I1.length ρ0 t ttf te ip.items (I1 ++ [.lst []])))
    (hQ : ∀ D, H1 D = none → ∀ μ I H, Ext μ1 I1 H1 μ I H → Ok X.K X.mg μ I H → μ[I1.length]? = some D → S μ I H () → Q (.ref D) H) :
    ∀ D, H1 D = none → ∃ Wv : Nat → Nat → Hp → Prop, (∃ m, Wv 0 m (upd H1 D (.lst []))) ∧ ∀ i m H, Wv i m H →
      (J.stop i H ∧ Q (.ref D) H) ∨ (J.go i H ∧ ∃ Nx : Hp → Prop, (∀ H', Nx H' → ∃ m', m' < m ∧ Wv (i + 1) m' H') ∧ ∀ x H', J.yld i H x H' → g x (wipe σ own) H' fun σ2 H2 => wipe σ2 own = wipe σ own ∧ tt σ2 H2 fun b H3 =>
        if b = true then tte σ2 H3 fun y H4 => ∃ acc, H4 D = some (.lst acc) ∧ acc.length < sizeLine ∧ Nx (upd H4 D (.lst (acc ++ [y]))) else Nx H3) := by
  intro D hD
  have hl1 := ok1.len
  have st := ok1.alloc (c := .lst []) (H' := upd H1 D (.lst [])) hD (same_upd hD) fun e => ⟨[], upd_same, rfl⟩
  let n := I1.length
  have hn0 : (μ1 ++ [D])[n]? = some D := by show (μ1 ++ [D])[I1.length]? = _; rw [← hl1]; simp
  refine ⟨fun i m H => m = ip.items.length - i ∧ i ≤ ip.items.length ∧ ∃ μ I, Ok X.K X.mg μ I H ∧ Ext μ1 I1 H1 μ I H ∧ μ[n]? = some D ∧ RPost X.K X.mg W' μ I H S (lcL ip n ρ0 t ttf te (ip.items.drop i) I),
    ⟨_, rfl, Nat.zero_le _, _, _, st.2, st.1, hn0, RPost.ext st.1 p⟩, ?_⟩
  rintro i m H ⟨rfl, hi, μ, I, ok, e, hn, p⟩
  by_cases hlt : i < ip.items.length
  · refine .inr ?_
    rw [List.drop_eq_getElem_cons hlt] at p
    unfold lcL at p
    split at p
    · rename_i hw
      have hd : ip.items[i]? = some ip.items[i] := List.getElem?_eq_getElem hlt
      obtain ⟨go, yl⟩ := (sim μ I H e ok hw i).1 _ hd
      refine ⟨go, fun H' => ∃ μ I, Ok X.K X.mg μ I H' ∧ Ext μ1 I1 H1 μ I H' ∧ μ[n]? = some D ∧ RPost X.K X.mg W' μ I H' S (lcL ip n ρ0 t ttf te (ip.items.drop (i + 1)) I),
        fun H' h => ⟨ip.items.length - (i + 1), by omega, rfl, hlt, h⟩, fun x H' hy => ?_⟩
      obtain ⟨sm, rx⟩ := yl x H' hy
      have ex : Ext μ I H μ I H' := Ext.same sm
      have okx : Ok X.K X.mg μ I H' := ok.same sm
      have rrx : RepR X.K μ I H' ρ0 (wipe σ own) := (rr1.ext e ok1).ext ex ok
      split at p
      · exact p.elim
      · rename_i ρ1 ht
        refine hg μ ρ0 I _ x _ H' ρ1 rrx okx rx ht _ fun σ2 rr2 hw2 => ⟨?_, htt _ _ _ ⟨μ, ρ1, I, rr2, okx, ?_⟩⟩
        · rw [hw2]
          have : ∀ vs : List Nat, wipe (wipe σ vs) vs = wipe σ vs := by
            intro vs
            have gen : ∀ (ws vs : List Nat), (∀ w ∈ ws, w ∈ vs) → wipe (wipe σ ws) vs = wipe σ vs := by
              intro ws
              induction ws with
              | nil => intro vs _; rfl
              | cons w ws ih =>
                intro vs hs
                show wipe ((wipe σ ws).set w none) vs = wipe σ vs
                rw [wipe_set (hs w List.mem_cons_self)]
                exact ih vs fun z hz => hs z (List.mem_cons_of_mem _ hz)
            exact gen vs vs fun _ h => h
          exact this own
        · have p1 := RPost.ext ex p
          have p2 := RPost.bind p1
          cases hb : ttf ρ1 I with
          | err z I2 => rw [hb] at p2; exact p2.elim
          | stuck => rw [hb] at p2; exact p2.elim
          | ok b I2 =>
            rw [hb] at p2
            intro μ2 H2 e2 ok2
            have p3 := p2 μ2 H2 e2 ok2
            cases b with
            | false => exact iteF ⟨μ2, I2, ok2, e.trans (ex.trans e2), e2.pre _ _ hn, p3⟩
            | true =>
              refine iteT (hte _ _ _ ⟨μ2, ρ1, I2, rr2.ext e2 okx, ok2, ?_⟩)
              have p4 : RPost X.K X.mg W' μ2 I2 H2 S ((te ρ1 I2).calm.bind fun y I3 => (match I3[n]? with
                | some (.lst acc) => if decide (acc.length < sizeLine) then lcL ip n ρ0 t ttf te (ip.items.drop (i + 1)) (I3.set n (.lst (acc ++ [y]))) else .stuck
                | _ => .stuck)) := p3
              have p5 := RPost.bind p4
              cases hy2 : te ρ1 I2 with
              | err z I3 => rw [hy2] at p5; exact p5.elim
              | stuck => rw [hy2] at p5; exact p5.elim
              | ok y I3 =>
                rw [hy2] at p5
                intro μ3 H3 e3 ok3 v rv
                have p6 := p5 μ3 H3 e3 ok3
                have hn3 := e3.pre _ _ (e2.pre _ _ hn)
                dsimp only at p6
                split at p6
                · rename_i acc hacc
                  split at p6
                  · rename_i hz
                    obtain ⟨ws, hws, rws⟩ := ok3.cell n _ D hacc hn3
                    have st3 := ok3.write (c' := .lst (acc ++ [y])) (o := .lst (ws ++ [v])) hn3 hacc rfl rfl fun e' => ⟨_, upd_same, RVs.append (RepVs.ext e' ok3 _ _ rws) ⟨v, [], rfl, RepV.ext e' ok3 _ _ rv, rfl⟩⟩
                    refine ⟨ws, hws, ?_, μ3, _, st3.2, e.trans (ex.trans (e2.trans (e3.trans st3.1))), hn3, RPost.ext st3.1 p6⟩
                    rw [← RVs.length rws]
                    exact of_decide_eq_true hz
                  · exact p6.elim
                · exact p6.elim
    · exact p.elim
  · refine .inl ?_
    have he : i = ip.items.length := by omega
    subst he
    rw [List.drop_length] at p
    unfold lcL at p
    split at p
    · rename_i hw
      exact ⟨(sim μ I H e ok hw _).2 (Nat.le_refl _), hQ D hD μ I H e ok hn (p μ H Ext.refl ok)⟩
    · exact p.elim
/-- the reading of a comprehension -/
theorem lc_read {it : IF} {g : TG} {t : CTF} {tt : TT} {tte : TE} {ttf : TF} {te : EF} {own : List Nat} (hg : GOK X g t own)
    (htt : ∀ σ H Q, tT X (fun _ _ _ _ => False) ttf σ H Q → tt σ H Q) (hte : ∀ σ H Q, tE X (fun _ _ _ _ => False) te σ H Q → tte σ H Q) (σ : L2.St) (H : Hp) (Q : VK) (h : tE X W (lcE it own t ttf te) σ H Q) :
    tLc (tI X W it) g tt tte own σ H Q := by
  obtain ⟨μ, ρ, I, rr, ok, p⟩ := h
  refine ⟨μ, ρ, I, rr, ok, (RPost.bind p).imp (fun μ1 I1 H1 ip e1 ok1 q J sim => ?_) fun _ _ _ z => z⟩
  have rr1 := (rr.ext e1 ok).wipe own
  cases hr : lcL ip I1.length (wipeR ρ own) t ttf te ip.items (I1 ++ [.lst []]) with
  | ok u I2 =>
    rw [hr] at q
    refine lc_loop (W' := W0) (S := fun μ' I' H' _ => I' = I2) sim rr1 ok1 hg htt hte (by rw [hr]; exact fun _ _ _ _ => rfl) fun D hD μ2 I2' H2 e2 ok2 hn p2 => ?_
    subst p2
    obtain ⟨d', I3, μ3, hf, e3, ok3, r3⟩ := fin_ok ok1 ok2 e2 (d := .loc I1.length) (v := .ref D) ⟨D, rfl, hn⟩
    have q' : RPost X.K X.mg (fun c dd H' => W c dd σ H') μ1 I1 H1 (sE X Q) (fin I1 (.loc I1.length) I2') := q
    rw [hf] at q'
    exact q' μ3 H2 e3 ok3 _ r3
  | err z I2 => exact lc_loop (W' := fun _ _ _ => True) (S := fun _ _ _ _ => False) sim rr1 ok1 hg htt hte (by rw [hr]; exact fun _ _ _ _ _ _ _ => trivial) fun D hD μ2 I2' H2 e2 ok2 hn p2 => p2.elim
  | stuck => rw [hr] at q; exact q.elim
theorem lc_readM {it : IF} {g : TG} {t : CTF} {tt : TT} {tte : TE} {ttf : TF} {te : EF} {own : List Nat} (hg : GOK X g t own)
    (htt : ∀ σ H Q, tT X (fun _ _ _ _ => False) ttf σ H Q → tt σ H Q) (hte : ∀ σ H Q, tE X (fun _ _ _ _ => False) te σ H Q → tte σ H Q) (σ : L2.St) (H : Hp) (Q : VK) (h : tE X W (lcM it own t ttf te) σ H Q) :
    tLc (tI X W it) g tt tte own σ H Q := by
  obtain ⟨μ, ρ, I, rr, ok, p⟩ := h
  refine ⟨μ, ρ, I, rr, ok, (RPost.bind p).imp (fun μ1 I1 H1 ip e1 ok1 q J sim => ?_) fun _ _ _ z => z⟩
  have rr1 := (rr.ext e1 ok).wipe own
  cases hr : lcL ip I1.length (wipeR ρ own) t ttf te ip.items (I1 ++ [.lst []]) with
  | ok u I2 =>
    rw [hr] at q
    refine lc_loop (W' := W0) (S := fun μ' I' H' _ => I' = I2) sim rr1 ok1 hg htt hte (by rw [hr]; exact fun _ _ _ _ => rfl) fun D hD μ2 I2' H2 e2 ok2 hn p2 => ?_
    subst p2
    exact q μ2 H2 e2 ok2 _ ⟨D, rfl, hn⟩
  | err z I2 => exact lc_loop (W' := fun _ _ _ => True) (S := fun _ _ _ _ => False) sim rr1 ok1 hg htt hte (by rw [hr]; exact fun _ _ _ _ _ _ _ => trivial) fun D hD μ2 I2' H2 e2 ok2 hn p2 => p2.elim
  | stuck => rw [hr] at q; exact q.elim
/-- the block's own context -/
theorem se_lc {elt tg iter : Expr} {ifs : List Expr} {scope : Scope} {own : List (Str × Nat)} {pos : Pos} {it : IF} {g : TG} {t : CTF} {ttf : TF} {te : EF} (hc : X.calm = true) (hN : X.N.Nodup) (hi : SI X W tg iter it) (okb : BlkOk X.N X.env.scope scope own) (hgo : GOK X g t (own.map (·.2)))
    (hg : ∀ (s : Shared) (H : Hp) (C : Addr) (cl : List (Str × Addr)) (fp : List Addr), PG (X.blk s H scope (compEnvC scope cl C X.env) fp) tg g)
    (ht : ∀ (s : Shared) (H : Hp) (C : Addr) (cl : List (Str × Addr)) (fp : List Addr), PTs (X.blk s H scope (compEnvC scope cl C X.env) fp) ifs (tT X (fun _ _ _ _ => False) ttf))
    (he : ∀ (s : Shared) (H : Hp) (C : Addr) (cl : List (Str × Addr)) (fp : List Addr), PE (X.blk s H scope (compEnvC scope cl C X.env) fp) elt (tE X (fun _ _ _ _ => False) te)) (hs : notSet iter = true) :
    SE X W (.ListComp elt [⟨tg, iter, ifs, 0⟩] scope pos) (lcE it (own.map (·.2)) t ttf te) :=
  pe_weak (pe_lc hc hN hi okb hg ht he (noFold hs)) fun σ H Q h => lc_read hgo (fun _ _ _ z => z) (fun _ _ _ z => z) σ H Q h
theorem se_lcM {elt tg iter : Expr} {ifs : List Expr} {scope : Scope} {own : List (Str × Nat)} {pos : Pos} {it : IF} {g : TG} {t : CTF} {ttf : TF} {te : EF} (hc : X.calm = true) (hN : X.N.Nodup) (hi : SI X W tg iter it) (okb : BlkOk X.N X.env.scope scope own) (hgo : GOK X g t (own.map (·.2)))
    (hg : ∀ (s : Shared) (H : Hp) (C : Addr) (cl : List (Str × Addr)) (fp : List Addr), PG (X.blk s H scope (compEnvC scope cl C X.env) fp) tg g)
    (ht : ∀ (s : Shared) (H : Hp) (C : Addr) (cl : List (Str × Addr)) (fp : List Addr), PTs (X.blk s H scope (compEnvC scope cl C X.env) fp) ifs (tT X (fun _ _ _ _ => False) ttf))
    (he : ∀ (s : Shared) (H : Hp) (C : Addr) (cl : List (Str × Addr)) (fp : List Addr), PE (X.blk s H scope (compEnvC scope cl C X.env) fp) elt (tE X (fun _ _ _ _ => False) te)) (hs : notSet iter = true) :
    SE X W (.ListComp elt [⟨tg, iter, ifs, 0⟩] scope pos) (lcM it (own.map (·.2)) t ttf te) :=
  pe_weak (pe_lc hc hN hi okb hg ht he (noFold hs)) fun σ H Q h => lc_readM hgo (fun _ _ _ z => z) (fun _ _ _ z => z) σ H Q h
/-- name = [..] -/
theorem ss_setLc {i : Nat} {y : Str} {py : Pos} {elt tg iter : Expr} {ifs : List Expr} {scope : Scope} {own : List (Str × Nat)} {pos spos : Pos} {it : IF} {g : TG} {ttf : TF} {te : EF} {F : EF} (hW : Flat W) (hc : X.calm = true) (hN : X.N.Nodup) (hy : X.N[i]? = some y) (hyl : X.env.scope.names.lookup y = some .local)
    (hsw : swapsWith (.ListComp elt [⟨tg, iter, ifs, 0⟩] scope pos) (some (.Name y py)) spos.line X.env = pure true) (hi : SI X W tg iter it) (okb : BlkOk X.N X.env.scope scope own)
    (hg : ∀ (s : Shared) (H : Hp) (C : Addr) (cl : List (Str × Addr)) (fp : List Addr), PG (X.blk s H scope (compEnvC scope cl C X.env) fp) tg g)
    (ht : ∀ (s : Shared) (H : Hp) (C : Addr) (cl : List (Str × Addr)) (fp : List Addr), PTs (X.blk s H scope (compEnvC scope cl C X.env) fp) ifs (tT X (fun _ _ _ _ => False) ttf))
    (he : ∀ (s : Shared) (H : Hp) (C : Addr) (cl : List (Str × Addr)) (fp : List Addr), PE (X.blk s H scope (compEnvC scope cl C X.env) fp) elt (tE X (fun _ _ _ _ => False) te)) (hs : notSet iter = true)
    (hF : ∀ σ H Q, tE X W F σ H Q → tLc (tI X W it) g (tT X (fun _ _ _ _ => False) ttf) (tE X (fun _ _ _ _ => False) te) (own.map (·.2)) σ H Q) :
    SS X W (.Assign [.Name y py] (.ListComp elt [⟨tg, iter, ifs, 0⟩] scope pos) spos) (asgS F (nameT i)) := by
  refine ps_weak (ps_setLc hc hN hy hyl hsw hi okb hg ht he (noFold hs)) fun De σ H ⟨μ, ρ, I, rr, ok, p⟩ => ?_
  refine hF σ H _ ⟨μ, ρ, I, rr, ok, (bindS_post hW p).imp (fun μ1 I1 H1 d e1 ok1 q v rv => ?_) fun _ _ _ z => z⟩
  exact q μ1 _ H1 Ext.refl ok1 ((rr.ext e1 ok).set rv i)
end
end MP
/-! MPO: own classes: attributes, methods, making -/
namespace MP
open PySem PySem.Spec L2

abbrev Clt := List (Str × List Str)
def insOf (I : MH) : D → Option (Nat × Str × List (Str × D))
  | .loc n => match I[n]? with
    | some (.ins c fs) => some (n, c, fs)
    | _ => none
  | _ => none
theorem insOf_some {I : MH} {d : D} {n : Nat} {c : Str} {fs : List (Str × D)} (h : insOf I d = some (n, c, fs)) : d = .loc n ∧ I[n]? = some (.ins c fs) := by
  unfold insOf at h
  split at h
  · rename_i m
    split at h
    · rename_i c' fs' e
      cases h
      exact ⟨rfl, e⟩
    · cases h
  · cases h
def hasAttr (tb : Clt) (c n : Str) : Bool := match tb.lookup c with
  | some as => as.contains n
  | none => false
def attrV (tb : Clt) (n : Str) (x : D) (I : MH) : Res D := match insOf I x with
  | some (_, c, fs) => if hasAttr tb c n then optR I (fs.lookup n) else .stuck
  | none => .stuck
def attrE (tb : Clt) (n : Str) (f : EF) : EF := fun ρ I => (f ρ I).bind fun x I1 => attrV tb n x I1
def putD (f : Str) (v : D) : List (Str × D) → List (Str × D)
  | [] => [(f, v)]
  | (g, x) :: r => if g = f then (g, v) :: r else (g, x) :: putD f v r
def setA (tb : Clt) (n : Str) (x v : D) (I : MH) : Res Unit := match insOf I x with
  | some (k, c, fs) => if hasAttr tb c n && decide (fs.length < 1000) then .ok () (I.set k (.ins c (putD n v fs))) else .stuck
  | none => .stuck
def fldT (tb : Clt) (n : Str) (fo : EF) : D → SF := fun d ρ I => (fo ρ I).bindS fun o I1 => (setA tb n o d I1).bindS fun _ I2 => .nx ρ I2
def addJ (x y : D) (I : MH) : Res D := match x, y with
  | .int i, .int j => .ok (.int (i + j)) I
  | _, _ => .stuck
theorem addJ_cases (x y : D) (I : MH) : (∃ i j, x = .int i ∧ y = .int j ∧ addJ x y I = .ok (.int (i + j)) I) ∨ addJ x y I = .stuck := by
  cases x <;> cases y <;> first
    | exact .inl ⟨_, _, rfl, rfl, rfl⟩
    | exact .inr rfl
def clsOf (I : MH) (o : D) : Option Str := (insOf I o).map fun q => q.2.1
def augF (tb : Clt) (n : Str) (g : D → D → MH → Res D) (fo f : EF) : SF := fun ρ I => (fo ρ I).bindS fun o I1 => (attrV tb n o I1).bindS fun x I2 => (f ρ I2).bindS fun y I3 => (g x y I3).calm.bindS fun z I4 =>
  if clsOf I4 o = clsOf I1 o then (setA tb n o z I4).bindS fun _ I5 => .nx ρ I5 else .stuck
/-- the class's methods: how many parameters, what it is worth -/
abbrev Mtt := List ((Str × Str) × Nat × FF)
def callM (mt : Mtt) (m : Str) (f : EF) (fs : List EF) : EF := fun ρ I => (f ρ I).bind fun x I1 => match insOf I1 x with
  | some (_, c, gs) => (match mt.lookup (c, m) with
    | some (n, F) => if (gs.lookup m).isNone then (seqA fs ρ I1).bind fun xs I2 => if xs.length + 1 = n then F (x :: xs) I2 else .stuck else .stuck
    | none => .stuck)
  | none => .stuck
def makeE (c : Str) (n : Nat) (F : FF) (fs : List EF) : EF := fun ρ I => (seqA fs ρ I).bind fun xs I1 => if xs.length + 1 = n then (F (.loc I1.length :: xs) (I1 ++ [.ins c []])).bind fun d I2 => match d with
  | .non => .ok (.loc I1.length) I2
  | _ => .stuck else .stuck

section
variable {S : D → V → Prop}
theorem RepP.get {n : Str} : ∀ {fs : List (Str × D)} {gs : List (Str × V)}, RepP (fun x y => x = y) S fs gs → (∀ d, fs.lookup n = some d → ∃ v, gs.lookup n = some v ∧ S d v) ∧ (fs.lookup n = none → gs.lookup n = none)
  | [], gs, h => by
    cases h
    exact ⟨fun d e => (by cases e), fun _ => rfl⟩
  | (k, x) :: fs, gs, h => by
    obtain ⟨k', v, r, rfl, rfl, h3, h4⟩ := h
    obtain ⟨i1, i2⟩ := RepP.get (n := n) h4
    rw [List.lookup_cons, List.lookup_cons]
    cases e : n == k with
    | true =>
      refine ⟨fun d z => ?_, fun z => (by cases z)⟩
      cases z
      exact ⟨v, rfl, h3⟩
    | false => exact ⟨i1, i2⟩
theorem RepP.put {n : Str} {d : D} {v : V} (hd : S d v) : ∀ {fs : List (Str × D)} {gs : List (Str × V)}, RepP (fun x y => x = y) S fs gs → RepP (fun x y => x = y) S (putD n d fs) (putF n v gs)
  | [], gs, h => by
    cases h
    exact ⟨n, v, [], rfl, rfl, hd, rfl⟩
  | (k, x) :: fs, gs, h => by
    obtain ⟨k', w, r, rfl, rfl, h3, h4⟩ := h
    show RepP _ S (if k = n then (k, d) :: fs else (k, x) :: putD n d fs) (if k = n then (k, v) :: r else (k, w) :: putF n v r)
    by_cases e : k = n
    · rw [if_pos e, if_pos e]
      exact ⟨k, v, r, rfl, rfl, hd, h4⟩
    · rw [if_neg e, if_neg e]
      exact ⟨k, w, _, rfl, rfl, h3, RepP.put hd h4⟩
end
section
variable {X : Cx} {W : WX} {tb : Clt}
def TbOk (X : Cx) (tb : Clt) : Prop := ∀ c as, tb.lookup c = some as → ClsOk X.K X.mg c as
theorem has_attr (h : TbOk X tb) {c n : Str} (e : hasAttr tb c n = true) : ∃ C, X.mg c = some (.ref C) ∧ Cls X.K C ∧ NoAttr X.K C n := by
  unfold hasAttr at e
  split at e
  · rename_i as ha
    obtain ⟨C, h1, h2, h3⟩ := h c as ha
    exact ⟨C, h1, h2, h3 n e⟩
  · cases e
/-- an instance's cell -/
theorem ins_rep {μ : List Addr} {I : MH} {H : Hp} {d : D} {v : V} {n : Nat} {c : Str} {fs : List (Str × D)} (ok : Ok X.K X.mg μ I H) (r : RV X.K μ I H d v) (h : insOf I d = some (n, c, fs)) :
    ∃ a C dx gs, v = .ref a ∧ μ[n]? = some a ∧ I[n]? = some (.ins c fs) ∧ X.mg c = some (.ref C) ∧ H a = some (.ins C dx gs) ∧ RepP (fun x y => x = y) (RV X.K μ I H) fs gs := by
  obtain ⟨rfl, hi⟩ := insOf_some h
  obtain ⟨a, rfl, ha⟩ := r
  obtain ⟨C, dx, gs, h1, h2, h3⟩ := ok.cell n _ a hi ha
  exact ⟨a, C, dx, gs, rfl, ha, hi, h1, h2, h3⟩
theorem attr_calm {n : Str} : ∀ d I x I', attrV tb n d I ≠ .err x I' := by
  intro d I x I' h
  unfold attrV at h
  split at h
  · split at h
    · unfold optR at h; split at h <;> cases h
    · cases h
  · cases h
theorem attr_ok {n : Str} {d d' : D} {I I' : MH} (h : attrV tb n d I = .ok d' I') : I' = I ∧ ∃ k c fs, insOf I d = some (k, c, fs) ∧ hasAttr tb c n = true ∧ fs.lookup n = some d' := by
  unfold attrV at h
  split at h
  · rename_i k c fs e
    split at h
    · rename_i ha
      cases hl : fs.lookup n with
      | none => rw [hl] at h; cases h
      | some y =>
        rw [hl] at h
        cases h
        exact ⟨rfl, k, c, fs, e, ha, hl⟩
    · cases h
  · cases h
theorem se_attr {e : Expr} {f : EF} {n : Str} {pos : Pos} (ht : TbOk X tb) (hb : baseOk e = true) (ha : SE X W e f) : SE X W (.Attribute e n pos) (attrE tb n f) := by
  refine pe_weak (pe_fld ha (base_ok hb)) fun σ H Q ⟨μ, ρ, I, rr, ok, p⟩ => ?_
  refine then_E rr ok p fun μ1 I1 H1 d v e1 rr1 ok1 rd p1 => ?_
  cases hx : attrV tb n d I1 with
  | err z I2 => exact absurd hx (attr_calm _ _ _ _)
  | stuck => rw [hx] at p1; exact p1.elim
  | ok d' I2 =>
    rw [hx] at p1
    obtain ⟨rfl, k, c, fs, h1, h2, h3⟩ := attr_ok hx
    obtain ⟨a, C, dx, gs, rfl, _, _, g1, g2, g3⟩ := ins_rep ok1 rd h1
    obtain ⟨C', c1, c2, c3⟩ := has_attr ht h2
    rw [g1] at c1
    cases c1
    obtain ⟨v', hv, rv⟩ := (RepP.get g3).1 _ h3
    exact ⟨a, C, dx, gs, v', rfl, g2, c2, c3, hv, fin0 ok1 p1 rv⟩
theorem setA_calm {n : Str} : ∀ o d I x I', setA tb n o d I ≠ .err x I' := by
  intro o d I x I' h
  unfold setA at h
  split at h
  · split at h <;> cases h
  · cases h
theorem setA_ok {n : Str} {o d : D} {I I' : MH} (h : setA tb n o d I = .ok () I') : ∃ k c fs, insOf I o = some (k, c, fs) ∧ hasAttr tb c n = true ∧ fs.length < 1000 ∧ I' = I.set k (.ins c (putD n d fs)) := by
  unfold setA at h
  split at h
  · rename_i k c fs e
    split at h
    · rename_i ha
      have b := Bool.and_eq_true_iff.mp ha
      cases h
      exact ⟨k, c, fs, e, b.1, of_decide_eq_true b.2, rfl⟩
    · cases h
  · cases h
/-- the store of an attribute, by its cell -/
theorem put_rep {μ : List Addr} {I : MH} {H : Hp} {o d : D} {ov v : V} {n : Str} {k : Nat} {c : Str} {fs : List (Str × D)} (ok : Ok X.K X.mg μ I H) (ro : RV X.K μ I H o ov) (rd : RV X.K μ I H d v) (hi : insOf I o = some (k, c, fs)) :
    ∃ a C dx gs, ov = .ref a ∧ X.mg c = some (.ref C) ∧ H a = some (.ins C dx gs) ∧ gs.length = fs.length ∧
      Ext μ I H μ (I.set k (.ins c (putD n d fs))) (upd H a (.ins C dx (putF n v gs))) ∧ Ok X.K X.mg μ (I.set k (.ins c (putD n d fs))) (upd H a (.ins C dx (putF n v gs))) := by
  obtain ⟨a, C, dx, gs, rfl, g0, gi, g1, g2, g3⟩ := ins_rep ok ro hi
  have st := ok.write (c' := .ins c (putD n d fs)) (o := .ins C dx (putF n v gs)) g0 gi rfl rfl fun e => ⟨C, dx, _, g1, upd_same, RepP.put (RepV.ext e ok _ _ rd) (g3.mono fun x y z => RepV.ext e ok x y z)⟩
  exact ⟨a, C, dx, gs, rfl, g1, g2, (RepP.length g3).symm, st.1, st.2⟩
theorem ss_setA {o e : Expr} {fo f : EF} {n : Str} {pos pos' : Pos} (hW : Flat W) (ht : TbOk X tb) (hs : swapsWith e (some (.Attribute o n pos')) pos.line X.env = pure false) (ho : SE X W o fo) (he : SE X W e f) : SS X W (.Assign [.Attribute o n pos'] e pos) (asgS f (fldT tb n fo)) := by
  refine ps_weak (ps_fld ho he hs) fun De σ H ⟨μ, ρ, I, rr, ok, p⟩ => ?_
  refine ⟨μ, ρ, I, rr, ok, (bindS_post hW (σ := σ) p).imp (S' := sE X _) (fun μ1 I1 H1 d e1 ok1 q v rv => ?_) fun _ _ _ z => z⟩
  have rr1 := rr.ext e1 ok
  refine ⟨μ1, ρ, I1, rr1, ok1, (bindS_post hW (σ := σ) q).imp (S' := sE X _) (fun μ2 I2 H2 o' e2 ok2 q2 ov ro => ?_) fun _ _ _ z => z⟩
  cases hx : setA tb n o' d I2 with
  | err z I3 => exact absurd hx (setA_calm _ _ _ _ _)
  | stuck => rw [hx] at q2; exact q2.elim
  | ok u I3 =>
    rw [hx] at q2
    obtain ⟨k, c, fs, h1, h2, h3, rfl⟩ := setA_ok hx
    obtain ⟨a, C, dx, gs, rfl, g1, g2, g3, g4, g5⟩ := put_rep (n := n) ok2 ro (RepV.ext e2 ok1 _ _ rv) h1
    obtain ⟨C', c1, c2, c3⟩ := has_attr ht h2
    rw [g1] at c1
    cases c1
    exact ⟨a, C, dx, gs, rfl, g2, c2, c3, by omega, q2 μ2 σ _ g4 g5 ((rr1.ext e2 ok1).ext g4 ok2)⟩
theorem ss_augA {o e : Expr} {fo f : EF} {n : Str} {pos pos' : Pos} (hW : Flat W) (ht : TbOk X tb) (ho : SE X W o fo) (he : SE X W e f) : SS X W (.AugAssign (.Attribute o n pos') .Add e pos) (augF tb n addJ fo f) := by
  refine ps_weak (ps_fldaug ho he in_add) fun De σ H ⟨μ, ρ, I, rr, ok, p⟩ => ?_
  refine ⟨μ, ρ, I, rr, ok, (bindS_post hW (σ := σ) p).imp (S' := sE X _) (fun μ1 I1 H1 o' e1 ok1 q ov ro => ?_) fun _ _ _ z => z⟩
  have rr1 := rr.ext e1 ok
  cases hx : attrV tb n o' I1 with
  | err z I2 => exact absurd hx (attr_calm _ _ _ _)
  | stuck => rw [hx] at q; exact q.elim
  | ok d' I2 =>
    rw [hx] at q
    obtain ⟨rfl, k, c, fs, h1, h2, h3⟩ := attr_ok hx
    obtain ⟨a, C, dx, gs, rfl, _, _, g1, g2, g3⟩ := ins_rep ok1 ro h1
    obtain ⟨C', c1, c2, c3⟩ := has_attr ht h2
    rw [g1] at c1
    cases c1
    obtain ⟨v', hv, rv⟩ := (RepP.get g3).1 _ h3
    refine ⟨a, C, dx, gs, v', rfl, g2, c2, c3, hv, ?_⟩
    have q : SPost X W De μ1 I2 H1 ((f ρ I2).bindS fun y I3 => (addJ d' y I3).calm.bindS fun z I4 => if clsOf I4 o' = clsOf I2 o' then (setA tb n o' z I4).bindS fun _ I5 => .nx ρ I5 else .stuck) := q
    refine ⟨μ1, ρ, I2, rr1, ok1, (bindS_post hW (σ := σ) q).imp (S' := sE X _) (fun μ3 I3 H3 y e3 ok3 q3 yv ry => ?_) fun _ _ _ z => z⟩
    have rx3 := RepV.ext e3 ok1 _ _ rv
    have ro3 := RepV.ext e3 ok1 _ _ ro
    rcases addJ_cases d' y I3 with ⟨i, j, rfl, rfl, ea⟩ | ea
    · rw [ea] at q3
      cases rx3
      cases ry
      refine ⟨i, j, rfl, rfl, ?_⟩
      have q3 : SPost X W De μ3 I3 H3 (if clsOf I3 o' = clsOf I2 o' then (setA tb n o' (.int (i + j)) I3).bindS fun _ I5 => .nx ρ I5 else .stuck) := q3
      split at q3
      · rename_i hcl
        cases hy : setA tb n o' (.int (i + j)) I3 with
        | err z I4 => exact absurd hy (setA_calm _ _ _ _ _)
        | stuck => rw [hy] at q3; exact q3.elim
        | ok u I4 =>
          rw [hy] at q3
          obtain ⟨k2, c2', fs2, h1', h2', h3', rfl⟩ := setA_ok hy
          obtain ⟨a2, C2, dx2, gs2, e2', g1', g2', g3', g4', g5'⟩ := put_rep (n := n) (d := .int (i + j)) (v := .int (i + j)) ok3 ro3 rfl h1'
          cases e2'
          unfold clsOf at hcl
          rw [h1, h1'] at hcl
          cases hcl
          rw [g1] at g1'
          cases g1'
          exact ⟨dx2, gs2, g2', by omega, q3 μ3 σ _ g4' g5' ((rr1.ext e3 ok1).ext g4' ok3)⟩
      · exact q3.elim
    · rw [ea] at q3
      exact q3.elim
/-! methods -/
/-- what a method is, and what it promises -/
structure MthOk (X : Cx) (k : Nat) (C : Addr) (m : Str) (n : Nat) (F : FF) : Prop where
  ex : ∃ f fd ps, Cls X.K C ∧ Meth X.K C m f ∧ Binds X.K fd ps [] ∧ FnOk X.prog X.w X.K X.mg X.base (L2N.CX X.prog X.w) k f fd ps (spSim X.K X.mg n F)
theorem pe_methOS {k : Nat} {m : Str} {pos apos : Pos} {o : Expr} {es : List Expr} {ta : TE} {t : TA} {pl : Sem Bool} (he : PE X o ta) (hr : Room k X.A) (tk : L2N.Takes X W) (ha : PA X es t) (hst : es.all notStar = true) (hes : es ≠ [])
    (ht : eval (.Call (.Attribute o m apos) es [] pos) X.env = (do
      let ov ← eval o X.env
      standAt apos.atName
      let (f, first) ← holding [ov] (getMethod ov m pl)
      callWith pos f first (backTo pos (starEach es X.env)) (backToKw pos (keywordEach [] X.env)))) :
    PE X (.Call (.Attribute o m apos) es [] pos) (fun σ H Q => ta σ H fun x H1 => ∃ a C dx fs n F, x = .ref a ∧ H1 a = some (.ins C dx fs) ∧ fs.lookup m = none ∧ MthOk X k C m n F ∧ t σ H1 fun vs H2 => spSim X.K X.mg n F (x :: vs) H2 Q (WE W σ)) := by
  refine ⟨fun pins s σ H Q I h => ?_⟩
  refine PySem.W.methodCall_KW (pl := pl) (thn (he.run pins s σ H _ I h) fun u s1 ⟨x, H1, I1, rx, a, C, dx, fs, n, G, ex, ea, l, M, q⟩ => ?_) ht
  subst ex
  obtain rfl : u = Value.ref a := rx
  obtain ⟨f, fd, ps, c, hm, hb, F⟩ := M.ex
  refine getmeth_ok I1 ea c hm l ?_
  cases es with
  | nil => exact absurd rfl hes
  | cons e es =>
    have hst' := Bool.and_eq_true_iff.mp (by rw [List.all_cons] at hst; exact hst)
    refine PySem.W.callWith_K (first := [.ref a]) (h₀ := X.base) I.ok.mod.kin hm.kp (thn (ha.run pos pins s1 σ H1 _ I1 q) fun us s2 ⟨vs, H2, I2, r, q2⟩ => ⟨I2.kIn, ?_⟩) (star_cons hst'.1) (star_any hst'.2)
    exact run_fnS (E := WE W) (us := .ref a :: us) (vs := .ref a :: vs) F hr hb (L2N.passAt tk σ) I2 (.cons rfl r) q2
theorem pe_methOS0 {k : Nat} {m : Str} {pos apos : Pos} {o : Expr} {ta : TE} {pl : Sem Bool} (he : PE X o ta) (hr : Room k X.A) (tk : L2N.Takes X W)
    (ht : eval (.Call (.Attribute o m apos) [] [] pos) X.env = (do
      let ov ← eval o X.env
      standAt apos.atName
      let (f, first) ← holding [ov] (getMethod ov m pl)
      callWith pos f first (backTo pos (starEach [] X.env)) (backToKw pos (keywordEach [] X.env)))) :
    PE X (.Call (.Attribute o m apos) [] [] pos) (fun σ H Q => ta σ H fun x H1 => ∃ a C dx fs n F, x = .ref a ∧ H1 a = some (.ins C dx fs) ∧ fs.lookup m = none ∧ MthOk X k C m n F ∧ spSim X.K X.mg n F [x] H1 Q (WE W σ)) := by
  refine ⟨fun pins s σ H Q I h => ?_⟩
  refine PySem.W.methodCall_KW (pl := pl) (thn (he.run pins s σ H _ I h) fun u s1 ⟨x, H1, I1, rx, a, C, dx, fs, n, G, ex, ea, l, M, q⟩ => ?_) ht
  subst ex
  obtain rfl : u = Value.ref a := rx
  obtain ⟨f, fd, ps, c, hm, hb, F⟩ := M.ex
  refine getmeth_ok I1 ea c hm l ?_
  exact PySem.W.callWith_K0 (first := [.ref a]) I1.kIn hm.kp (run_fnS (E := WE W) (us := [.ref a]) (vs := [.ref a]) F hr hb (L2N.passAt tk σ) I1 (.cons rfl .nil) q)
theorem meth_tree {o : Expr} {m : Str} {es : List Expr} {apos cpos : Pos} {env : Env} (hb : baseOk o = true) (hn : es.all notStar = true) (hl : decide (es.length < 30) = true) (hline : (apos.endLine == cpos.line) = true) :
    eval (.Call (.Attribute o m apos) es [] cpos) env = (do
      let ov ← eval o env
      standAt apos.atName
      let (f, first) ← holding [ov] (getMethod ov m (do return (← importBound o env).getD true))
      callWith cpos f first (backTo cpos (starEach es env)) (backToKw cpos (keywordEach [] env))) := by
  have hf : methodCallForm (es.length + ([] : List Keyword).length) (backTo cpos (starEach es env)) (backToKw cpos (keywordEach [] env)) = true := by
    unfold methodCallForm
    rw [star_all hn]
    have : es.length < 30 := of_decide_eq_true hl
    show (true && true && decide (es.length + 0 + 0 < 30)) = true
    rw [decide_eq_true (by omega)]
    rfl
  rw [arm_eval_Call, base_ok hb]
  unfold methodCall calleeOf methodCallPos
  rw [hf, hline]
  rfl
theorem se_callM {C : CC} {k : Nat} {o : Expr} {m : Str} {es : List Expr} {f : EF} {fs : List EF} {apos cpos : Pos} (M : Mt X C W k) (ho : SE X W o f) (ha : SA X W es (seqA fs)) (hlen : es.length = fs.length)
    (hb : baseOk o = true) (hn : es.all notStar = true) (hl : decide (es.length < 30) = true) (hline : (apos.endLine == cpos.line) = true) : SE X W (.Call (.Attribute o m apos) es [] cpos) (callM C.mth m f fs) := by
  have mth : ∀ {μ : List Addr} {I : MH} {H : Hp} {d : D} {v : V} {n q : Nat} {c : Str} {gs : List (Str × D)} {F : FF}, Ok X.K X.mg μ I H → RV X.K μ I H d v → insOf I d = some (q, c, gs) → C.mth.lookup (c, m) = some (n, F) → (gs.lookup m).isNone = true →
      ∃ a Ca dx fs, v = .ref a ∧ H a = some (.ins Ca dx fs) ∧ fs.lookup m = none ∧ MthOk X k Ca m n F := by
    intro μ I H d v n q c gs F ok rd hi hm hg
    obtain ⟨a, Ca, dx, fs, rfl, _, _, g1, g2, g3⟩ := ins_rep ok rd hi
    obtain ⟨C', f, fd, ps, h1, h2, h3, h4, h5⟩ := (M.mdl.mth _ _ _ _ hm).ex
    rw [g1] at h1
    cases h1
    exact ⟨a, Ca, dx, fs, rfl, g2, (RepP.get g3).2 (Option.isNone_iff_eq_none.mp hg), ⟨f, fd, ps, h2, h3, h4, h5⟩⟩
  have body : ∀ (σ : L2.St) (H : Hp) (Q : VK) (t : L2.St → Hp → (List V → Hp → Prop) → Prop), (∀ σ H Q, tA X W (seqA fs) σ H Q → t σ H Q) → tE X W (callM C.mth m f fs) σ H Q →
      tE X W f σ H fun x H1 => ∃ a Ca dx gs n F, x = .ref a ∧ H1 a = some (.ins Ca dx gs) ∧ gs.lookup m = none ∧ MthOk X k Ca m n F ∧ t σ H1 fun vs H2 => spSim X.K X.mg n F (x :: vs) H2 Q (WE W σ) := by
    intro σ H Q t ht ⟨μ, ρ, I, rr, ok, p⟩
    refine then_E rr ok p fun μ1 I1 H1 d v e1 rr1 ok1 rd p1 => ?_
    split at p1
    · rename_i q c gs hi
      split at p1
      · rename_i n F hm
        split at p1
        · rename_i hg
          obtain ⟨a, Ca, dx, hs, rfl, g1, g2, g3⟩ := mth ok1 rd hi hm hg
          refine ⟨a, Ca, dx, hs, n, F, rfl, g1, g2, g3, ht _ _ _ ?_⟩
          refine then_A rr1 ok1 p1 fun μ2 I2 H2 ds vs e2 rr2 ok2 rds p2 => ?_
          split at p2
          · rename_i hl
            exact ⟨by rw [List.length_cons, ← RVs.length rds]; exact hl, μ2, I2, d :: ds, ok2, ⟨.ref a, vs, rfl, RepV.ext e2 ok1 _ _ rd, rds⟩, p2⟩
          · exact p2.elim
        · exact p1.elim
      · exact p1.elim
    · exact p1.elim
  cases es with
  | nil =>
    refine pe_weak (pe_methOS0 ho M.room M.tk (meth_tree hb hn hl hline)) fun σ H Q h => ?_
    refine body σ H Q (fun σ H Q => Q [] H) (fun σ H Q z => ?_) h
    cases fs with
    | cons => cases hlen
    | nil =>
      obtain ⟨μ, ρ, I, rr, ok, p⟩ := z
      exact p μ H Ext.refl ok [] rfl
  | cons e es => exact pe_weak (pe_methOS ho M.room M.tk ha hn (by simp) (meth_tree hb hn hl hline)) fun σ H Q h => body σ H Q (tA X W (seqA fs)) (fun _ _ _ z => z) h
/-! making -/
theorem run_makeS {CX : CXT} {k : Nat} {f C : Addr} {fd : FuncData} {ps : List Str} {sp : Sp} {E : XK} {pins : List (Addr × Obj)} {σ : L2.St} {H : Hp} {s : Shared} {Q : VK} {us : List Value} {vs : List V} (M : Mk X.K C f) (F : FnOk X.prog X.w X.K X.mg X.base CX k f fd ps sp) (hr : Room (k + 1) X.A) (hb : Binds X.K fd ps [])
    (hx : PassesAt CX X σ E) (I : Inv X pins σ H s) (r : Vals vs us)
    (h : ∀ x dx, H x = none → H dx = none → dx ≠ x → sp (.ref x :: vs) (upd (upd H dx (.own x)) x (.ins C dx [])) (fun v H2 => v = .non ∧ Q (.ref x) H2) E) :
    wpAny (model X.prog X.w) X.A (call (.ref C) us) (EP X pins σ Q) X.xe s := by
  have hq := h (s.heap.objs.size + 1) s.heap.objs.size (I.hok.fresh (Nat.le_succ _)) (I.hok.fresh (Nat.le_refl _)) (Nat.ne_of_lt (Nat.lt_succ_self _))
  have I2 := Inv.made (C := C) I
  have r2 : Vals (V.ref (s.heap.objs.size + 1) :: vs) (Value.ref (s.heap.objs.size + 1) :: us) := .cons rfl r
  have hl : (Value.ref (s.heap.objs.size + 1) :: us).length = ps.length := by
    have e := r2.length
    rw [F.len _ _ _ _ hq] at e
    exact e.symm
  have b : ∀ s2 : Shared, X.K.In s2.heap → BindsTo s2 fd ⟨Value.ref (s.heap.objs.size + 1) :: us, []⟩ (ps.zip (Value.ref (s.heap.objs.size + 1) :: us)) := fun s2 k2 => by
    have := hb s2 (Value.ref (s.heap.objs.size + 1) :: us) k2 (by rw [List.append_nil]; exact hl)
    rw [List.append_nil] at this
    exact this
  refine wpAny_call (make_map (f := f) I.kIn M.makes M.init (beq_iff_eq.mp M.fn) (codeAny_mono (F.run _ X.stack _ _ ⟨Value.ref (s.heap.objs.size + 1) :: us, []⟩ (Value.ref (s.heap.objs.size + 1) :: us) _ _ E (hr.make C us [])
    (I2.env0.make C us []) (b _ I2.kIn) r2 hq) fun r s' hq' => ?_))
  cases r with
  | error e => exact hx pins _ _ e s' I2 hq'
  | ok fl =>
    cases fl with
    | ret u =>
      obtain ⟨v, H', I3, rv, ev, q3⟩ := I2.after hq'
      subst ev
      exact ⟨rv, ⟨V.ref (s.heap.objs.size + 1), H', I3, rfl, q3⟩⟩
    | next => exact False.elim hq'
    | brk => exact False.elim hq'
    | cont => exact False.elim hq'
theorem se_make {C : CC} {k n : Nat} {F : FF} {x : Str} {p pos : Pos} {e : Expr} {es : List Expr} {fs : List EF} (M : Mt X C W k) (hF : C.mks.lookup x = some (n, F)) (hg : Gl X x) (hdb : (x == ("__debug__" : Str)) = false) (hn : (e :: es).all notStar = true)
    (ha : SA X W (e :: es) (seqA fs)) : SE X W (.Call (.Name x p) (e :: es) [] pos) (makeE x n F fs) := by
  obtain ⟨j, hj, S⟩ := M.mdl.mks x n F hF
  obtain ⟨Ca, f, fd, ps, h1, h2, h3, h4⟩ := S.ex
  have hn' := Bool.and_eq_true_iff.mp (by rw [List.all_cons] at hn; exact hn)
  refine ⟨fun pins s σ H Q I h => ?_⟩
  obtain ⟨μ, ρ, J, rr, ok, q⟩ := h
  refine wpAny_Call_Name_kw (ld_glob I hg h1 ?_ hdb)
  refine PySem.W.callWith_K (h₀ := X.base) I.ok.mod.kin h2.kp (thn (ha.run pos pins s σ H _ I (then_A (R := fun vs H1 => ∀ x dx, H1 x = none → H1 dx = none → dx ≠ x → spSim X.K X.mg n F (.ref x :: vs) (upd (upd H1 dx (.own x)) x (.ins Ca dx [])) (fun v H2 => v = .non ∧ Q (.ref x) H2) (WE W σ)) rr ok q fun μ1 I1 H1 ds vs e1 rr1 ok1 rd p1 => ?_)) fun us s1 ⟨vs, H1, I1, r, q1⟩ => ⟨I1.kIn, ?_⟩) (star_cons hn'.1) (star_any hn'.2)
  · intro y dx ny ndx ne
    split at p1
    · rename_i hl
      have hs1 : ∀ a o, H1 a = some o → upd H1 dx (.own y) a = some o := same_upd ndx
      have ny1 : upd H1 dx (.own y) y = none := by rw [upd_ne (Ne.symm ne)]; exact ny
      have ok2 := ok1.same hs1
      have hs2 : ∀ a o, upd H1 dx (.own y) a = some o → upd (upd H1 dx (.own y)) y (.ins Ca dx []) a = some o := same_upd ny1
      have st := ok2.alloc (c := .ins x []) (H' := upd (upd H1 dx (.own y)) y (.ins Ca dx [])) ny1 hs2 fun e => ⟨Ca, dx, [], h1, upd_same, rfl⟩
      have E2 : Ext μ1 I1 H1 (μ1 ++ [y]) (I1 ++ [.ins x []]) (upd (upd H1 dx (.own y)) y (.ins Ca dx [])) := (Ext.same hs1).trans st.1
      refine ⟨by rw [List.length_cons, ← RVs.length rd]; exact hl, μ1 ++ [y], I1 ++ [.ins x []], .loc I1.length :: ds, st.2, ⟨.ref y, vs, rfl, ⟨y, rfl, ?_⟩, RepVs.ext E2 ok1 _ _ rd⟩, ?_⟩
      · rw [← ok1.len]; simp
      · cases hF2 : F (.loc I1.length :: ds) (I1 ++ [.ins x []]) with
        | ok d I2 =>
          rw [hF2] at p1
          intro μ3 H3 e3 ok3 v rv
          cases d with
          | non =>
            cases rv
            have p2 : RPost X.K X.mg (fun c dd H' => W c dd σ H') μ1 I1 H1 (sE X Q) (.ok (.loc I1.length) I2) := p1
            refine ⟨rfl, p2 μ3 H3 (E2.trans e3) ok3 _ ⟨y, rfl, e3.pre _ _ ?_⟩⟩
            rw [← ok1.len]; simp
          | _ => exact (show False from p1).elim
        | err z I2 =>
          rw [hF2] at p1
          exact fun μ3 H3 c dd e3 ok3 rx => p1 μ3 H3 c dd (E2.trans e3) ok3 rx
        | stuck => rw [hF2] at p1; exact p1.elim
    · exact p1.elim
  · exact run_makeS h2 h4 (M.room.mono hj) h3 (L2N.passAt M.tk σ) I1 r q1
end
end MP
/-! MPD: dicts whose keys are ints and texts -/
namespace MP
open PySem PySem.Spec L2
abbrev KD := Sum Int (List Nat)
def keyD : D → Option KD
  | .int i => some (.inl i)
  | .str s => some (.inr s)
  | _ => none
def valD (kvs : List (KD × D)) (k : KD) : Option D := (kvs.find? fun kv => decide (kv.1 = k)).map (·.2)
def putKD (kvs : List (KD × D)) (k : KD) (v : D) : List (KD × D) := if kvs.any fun kv => decide (kv.1 = k) then kvs.map fun kv => if kv.1 = k then (kv.1, v) else kv else kvs ++ [(k, v)]
def dctOf (I : MH) : D → Option (Nat × List (KD × D))
  | .loc n => match I[n]? with
    | some (.dct kvs) => some (n, kvs)
    | _ => none
  | _ => none
theorem dctOf_some {I : MH} {d : D} {n : Nat} {kvs : List (KD × D)} (h : dctOf I d = some (n, kvs)) : d = .loc n ∧ I[n]? = some (.dct kvs) := by
  unfold dctOf at h
  split at h
  · split at h
    · rename_i e
      cases h
      exact ⟨rfl, e⟩
    · cases h
  · cases h
def inDD (neg : Bool) (x y : D) (I : MH) : Res D := match dctOf I y with
  | some (_, kvs) => (match keyD x with
    | some k => .ok (.bl (if neg then !(valD kvs k).isSome else (valD kvs k).isSome)) I
    | none => .stuck)
  | none => inB neg x y I
def ixDD (x y : D) (I : MH) : Res D := match dctOf I x with
  | some (_, kvs) => (match keyD y with
    | some k => optR I (valD kvs k)
    | none => .stuck)
  | none => ixD x y I
theorem repK_eq {a b : KD} {k j : Key} (h : RepK a k) (g : RepK b j) : (a = b) = (k = j) := by
  cases a with
  | inl i =>
    cases h
    cases b with
    | inl i' => cases g; exact propext ⟨fun z => (by cases z; rfl), fun z => (by cases z; rfl)⟩
    | inr s => cases g; exact propext ⟨fun z => (by cases z), fun z => (by cases z)⟩
  | inr s =>
    cases h
    cases b with
    | inl i' => cases g; exact propext ⟨fun z => (by cases z), fun z => (by cases z)⟩
    | inr s' => cases g; exact propext ⟨fun z => (by cases z; rfl), fun z => (by injection z with z; rw [toS_inj z])⟩
theorem key_rep {K : PySem.W.Frag} {μ : List Addr} {I : MH} {H : Hp} {d : D} {v : V} {k : KD} (r : RV K μ I H d v) (h : keyD d = some k) : ∃ j : Key, RepK k j ∧ v = kV j := by
  cases d with
  | int i => cases h; cases r; exact ⟨.inl i, rfl, rfl⟩
  | str s => cases h; cases r; exact ⟨.inr (toS s), rfl, rfl⟩
  | _ => cases h
section
variable {S : D → V → Prop}
theorem RepP.val {a : KD} {k : Key} (hk : RepK a k) : ∀ {ds : List (KD × D)} {vs : List (Key × V)}, RepP RepK S ds vs → match valD ds a with
    | some d => ∃ v, valV vs k = some v ∧ S d v
    | none => valV vs k = none
  | [], vs, h => by cases h; exact rfl
  | (b, d) :: ds, vs, h => by
    obtain ⟨j, v, r, rfl, h2, h3, h4⟩ := h
    have e := repK_eq h2 hk
    by_cases hb : b = a
    · have hj : j = k := by rw [← e]; exact hb
      have e1 : valD ((b, d) :: ds) a = some d := by unfold valD; rw [List.find?_cons_of_pos (by simpa using hb)]; rfl
      rw [e1]
      exact ⟨v, valV_pos hj, h3⟩
    · have hj : ¬ j = k := by rw [← e]; exact hb
      have e1 : valD ((b, d) :: ds) a = valD ds a := by unfold valD; rw [List.find?_cons_of_neg (by simpa using hb)]
      rw [e1, valV_neg hj]
      exact RepP.val hk h4
theorem RepP.any {a : KD} {k : Key} (hk : RepK a k) : ∀ {ds : List (KD × D)} {vs : List (Key × V)}, RepP RepK S ds vs → (ds.any fun kv => decide (kv.1 = a)) = (vs.any fun kv => decide (kv.1 = k))
  | [], vs, h => by cases h; rfl
  | (b, d) :: ds, vs, h => by
    obtain ⟨j, v, r, rfl, h2, h3, h4⟩ := h
    rw [List.any_cons, List.any_cons, RepP.any hk h4]
    congr 1
    exact decide_eq_decide.mpr (by rw [repK_eq h2 hk])
theorem RepP.repl {a : KD} {k : Key} {d : D} {v : V} (hk : RepK a k) (hd : S d v) : ∀ {ds : List (KD × D)} {vs : List (Key × V)}, RepP RepK S ds vs → RepP RepK S (ds.map fun kv => if kv.1 = a then (kv.1, d) else kv) (vs.map fun kv => if kv.1 = k then (kv.1, v) else kv)
  | [], vs, h => by cases h; rfl
  | (b, d') :: ds, vs, h => by
    obtain ⟨j, w, r, rfl, h2, h3, h4⟩ := h
    rw [List.map_cons, List.map_cons]
    by_cases hb : b = a
    · have hj : j = k := by rw [← repK_eq h2 hk]; exact hb
      rw [if_pos hb, if_pos hj]
      exact ⟨j, v, _, rfl, h2, hd, RepP.repl hk hd h4⟩
    · have hj : ¬ j = k := by rw [← repK_eq h2 hk]; exact hb
      rw [if_neg hb, if_neg hj]
      exact ⟨j, w, _, rfl, h2, h3, RepP.repl hk hd h4⟩
theorem RepP.snoc {a : KD} {k : Key} {d : D} {v : V} (hk : RepK a k) (hd : S d v) : ∀ {ds : List (KD × D)} {vs : List (Key × V)}, RepP RepK S ds vs → RepP RepK S (ds ++ [(a, d)]) (vs ++ [(k, v)])
  | [], vs, h => by cases h; exact ⟨k, v, [], rfl, hk, hd, rfl⟩
  | (b, d') :: ds, vs, h => by
    obtain ⟨j, w, r, rfl, h2, h3, h4⟩ := h
    exact ⟨j, w, _, rfl, h2, h3, RepP.snoc hk hd h4⟩
theorem RepP.putK {a : KD} {k : Key} {d : D} {v : V} {ds : List (KD × D)} {vs : List (Key × V)} (hk : RepK a k) (hd : S d v) (h : RepP RepK S ds vs) : RepP RepK S (putKD ds a d) (L2.putK vs k v) := by
  unfold putKD L2.putK
  rw [RepP.any hk h]
  split
  · exact RepP.repl hk hd h
  · exact RepP.snoc hk hd h
end
section
variable {X : Cx} {W : WX}
theorem dct_rep {μ : List Addr} {I : MH} {H : Hp} {d : D} {v : V} {n : Nat} {kvs : List (KD × D)} (ok : Ok X.K X.mg μ I H) (r : RV X.K μ I H d v) (h : dctOf I d = some (n, kvs)) :
    ∃ a ks, v = .ref a ∧ μ[n]? = some a ∧ I[n]? = some (.dct kvs) ∧ H a = some (.dK ks) ∧ RepP RepK (RV X.K μ I H) kvs ks := by
  obtain ⟨rfl, hi⟩ := dctOf_some h
  obtain ⟨a, rfl, ha⟩ := r
  obtain ⟨ks, h1, h2⟩ := ok.cell n _ a hi ha
  exact ⟨a, ks, rfl, ha, hi, h1, h2⟩
theorem op_inD (hu : X.A.units + 64 < cLine) : OpR X (compareOp .In) (rS2 X (inDD false)) := by
  intro pins s σ H x y v u Q Iv rx ry ⟨μ, I, d, e, ok, rd, re, p⟩
  unfold inDD at p
  split at p
  · rename_i n kvs he
    split at p
    · rename_i k hk
      obtain ⟨a, ks, rfl, _, _, g1, g2⟩ := dct_rep ok re he
      obtain ⟨j, h1, rfl⟩ := key_rep rd hk
      cases ry
      have hv := RepP.val h1 g2
      refine d_in (by omega) Iv (DGet.k g1 (k := j)) rx fun s' I' => ⟨.bl (valV ks j).isSome, H, I', rfl, ?_⟩
      have e2 : (valV ks j).isSome = (valD kvs k).isSome := by
        cases hvd : valD kvs k with
        | none => rw [hvd] at hv; rw [hv]; rfl
        | some d => rw [hvd] at hv; obtain ⟨v, q, _⟩ := hv; rw [q]; rfl
      rw [e2]
      exact fin0 ok p rfl
    · exact p.elim
  · exact (cmp_ok hu (op := .In) rfl) pins s σ H x y v u Q Iv rx ry ⟨μ, I, d, e, ok, rd, re, p⟩
theorem op_ninD (hu : X.A.units + 64 < cLine) : OpR X (compareOp .NotIn) (rS2 X (inDD true)) := by
  intro pins s σ H x y v u Q Iv rx ry ⟨μ, I, d, e, ok, rd, re, p⟩
  unfold inDD at p
  split at p
  · rename_i n kvs he
    split at p
    · rename_i k hk
      obtain ⟨a, ks, rfl, _, _, g1, g2⟩ := dct_rep ok re he
      obtain ⟨j, h1, rfl⟩ := key_rep rd hk
      cases ry
      have hv := RepP.val h1 g2
      refine d_notIn (by omega) Iv (DGet.k g1 (k := j)) rx fun s' I' => ⟨.bl (!(valV ks j).isSome), H, I', rfl, ?_⟩
      have e2 : (valV ks j).isSome = (valD kvs k).isSome := by
        cases hvd : valD kvs k with
        | none => rw [hvd] at hv; rw [hv]; rfl
        | some d => rw [hvd] at hv; obtain ⟨v, q, _⟩ := hv; rw [q]; rfl
      rw [e2]
      exact fin0 ok p rfl
    · exact p.elim
  · exact (cmp_ok hu (op := .NotIn) rfl) pins s σ H x y v u Q Iv rx ry ⟨μ, I, d, e, ok, rd, re, p⟩
theorem ix_okD (hu : X.A.units + 64 < cLine) : IxR X (rS2 X ixDD) := by
  intro value slice pins s σ H x y v u Q Iv rx ry ⟨μ, I, d, e, ok, rd, re, p⟩ hs
  unfold ixDD at p
  split at p
  · rename_i n kvs he
    split at p
    · rename_i k hk
      obtain ⟨a, ks, rfl, _, _, g1, g2⟩ := dct_rep ok rd he
      obtain ⟨j, h1, rfl⟩ := key_rep re hk
      cases rx
      have hv := RepP.val h1 g2
      cases hvd : valD kvs k with
      | none => rw [hvd] at p; exact p.elim
      | some d =>
        rw [hvd] at p hv
        obtain ⟨w, q, rw'⟩ := hv
        have g := DGet.k g1 (k := j)
        rw [q] at g
        exact PyProof.Rows.tail_any (dict_typeIs Iv g) PySem.F.slot_dict_getitem.lookup (d_getItem (by omega) Iv g ry fun w' s' I' rv => ⟨w, H, I', rv, fin0 ok p rw'⟩) hs
    · exact p.elim
  · exact ix_ok value slice pins s σ H x y v u Q Iv rx ry ⟨μ, I, d, e, ok, rd, re, p⟩ hs
/-! displays -/
def pairsE : List (EF × EF) → En → MH → Res (List (D × D))
  | [] => fun _ I => .ok [] I
  | (f, g) :: r => fun ρ I => (f ρ I).bind fun x I1 => (g ρ I1).bind fun y I2 => (pairsE r ρ I2).bind fun ps I3 => .ok ((x, y) :: ps) I3
def keysD : List (D × D) → Option (List (KD × D))
  | [] => some []
  | (x, y) :: r => match keyD x, keysD r with
    | some k, some ks => some ((k, y) :: ks)
    | _, _ => none
def mergeD (kvs more : List (KD × D)) : List (KD × D) := more.foldl (fun acc kv => putKD acc kv.1 kv.2) kvs
def dictE (ps : List (EF × EF)) : EF := fun ρ I => (pairsE ps ρ (I ++ [.dct []])).bind fun qs I1 => match keysD qs, I1[I.length]? with
  | some kvs, some (.dct []) => if decide (kvs.length ≤ 15) then .ok (.loc I.length) (I1.set I.length (.dct (mergeD [] kvs))) else .stuck
  | _, _ => .stuck
/-- the readings of the pairs -/
def PRs (X : Cx) (W : WX) : List Expr → List Expr → List (EF × EF) → List (TE × TE) → Prop
  | [], [], [], [] => True
  | k :: ks, v :: vs, (f, g) :: r, (t, u) :: q => SE X W k f ∧ SE X W v g ∧ t = tE X W f ∧ u = tE X W g ∧ PRs X W ks vs r q
  | _, _, _, _ => False
theorem prs_pps {pos : Pos} : ∀ {ks vs : List Expr} {r : List (EF × EF)} {q : List (TE × TE)}, PRs X W ks vs r q → PPs X pos (ks.map some) vs q
  | [], [], [], [], _ => pps_nil
  | k :: ks, v :: vs, (f, g) :: r, (t, u) :: q, h => by
    obtain ⟨h1, h2, rfl, rfl, h3⟩ := h
    exact pps_cons h1 h2 (prs_pps h3)
theorem prs_run : ∀ {ks vs : List Expr} {r : List (EF × EF)} {q : List (TE × TE)} {σ : L2.St} {H : Hp} {Q : List (V × V) → Hp → Prop} {μ : List Addr} {ρ : En} {I : MH}, PRs X W ks vs r q → RepR X.K μ I H ρ σ → Ok X.K X.mg μ I H →
    RPost X.K X.mg (fun c dd H' => W c dd σ H') μ I H (fun μ' I' H' ps => ∀ vs', Paired (fun (a : D × D) (b : V × V) => RV X.K μ' I' H' a.1 b.1 ∧ RV X.K μ' I' H' a.2 b.2) ps vs' → Q vs' H') (pairsE r ρ I) → tPairs q σ H Q
  | [], [], [], [], σ, H, Q, μ, ρ, I, _, rr, ok, p => p μ H Ext.refl ok [] .nil
  | k :: ks, v :: vs, (f, g) :: r, (t, u) :: q, σ, H, Q, μ, ρ, I, h, rr, ok, p => by
    obtain ⟨h1, h2, rfl, rfl, h3⟩ := h
    refine then_E rr ok p fun μ1 I1 H1 d x e1 rr1 ok1 rd p1 => ?_
    refine then_E rr1 ok1 p1 fun μ2 I2 H2 d' y e2 rr2 ok2 rd' p2 => ?_
    refine prs_run (Q := fun ps H3 => Q ((x, y) :: ps) H3) h3 rr2 ok2 ((RPost.bind p2).imp (fun μ3 I3 H3 ps e3 ok3 p3 vs' rs => ?_) fun _ _ _ z => z)
    exact p3 μ3 H3 Ext.refl ok3 _ (.cons ⟨RepV.ext e3 ok2 _ _ (RepV.ext e2 ok1 _ _ rd), RepV.ext e3 ok2 _ _ rd'⟩ rs)
theorem keys_rep {μ : List Addr} {I : MH} {H : Hp} : ∀ {ps : List (D × D)} {vs : List (V × V)} {kvs : List (KD × D)}, Paired (fun (a : D × D) (b : V × V) => RV X.K μ I H a.1 b.1 ∧ RV X.K μ I H a.2 b.2) ps vs → keysD ps = some kvs →
    ∃ ks : List (Key × V), vs = ks.map (fun kv => (kV kv.1, kv.2)) ∧ RepP RepK (RV X.K μ I H) kvs ks
  | [], _, kvs, .nil, h => by cases h; exact ⟨[], rfl, rfl⟩
  | (x, y) :: ps, (v, u) :: vs, kvs, .cons h0 t, h => by
    unfold keysD at h
    split at h
    · rename_i k ks hk hks
      cases h
      obtain ⟨j, g1, g2⟩ := key_rep h0.1 hk
      obtain ⟨js, g3, g4⟩ := keys_rep t hks
      have g2' : v = kV j := g2
      exact ⟨(j, u) :: js, by rw [g2', g3]; rfl, j, u, js, rfl, g1, h0.2, g4⟩
    · cases h
theorem merge_rep {S : D → V → Prop} : ∀ {kvs : List (KD × D)} {ks : List (Key × V)} {a : List (KD × D)} {b : List (Key × V)}, RepP RepK S kvs ks → RepP RepK S a b → RepP RepK S (mergeD a kvs) (mergeK b ks)
  | [], _, a, b, h, g => by cases h; exact g
  | (k, d) :: kvs, _, a, b, h, g => by
    obtain ⟨j, v, r, rfl, h2, h3, h4⟩ := h
    exact merge_rep (a := putKD a k d) (b := L2.putK b j v) h4 (RepP.putK h2 h3 g)
theorem se_dict {ks vs : List Expr} {r : List (EF × EF)} {q : List (TE × TE)} {pos : Pos} (h : PRs X W ks vs r q) (hl : ks.length = vs.length) (h0 : ks ≠ []) (h15 : ks.length ≤ 15) : SE X W (.Dict (ks.map some) vs pos) (dictE r) := by
  refine pe_weak (pe_disp (prs_pps h) (by rw [List.all_map]; exact List.all_eq_true.mpr fun _ _ => rfl) (by rw [List.length_map]; exact hl) (by simpa using h0) (by rw [List.length_map]; exact h15)) fun σ H Q ⟨μ, ρ, I, rr, ok, p⟩ => ?_
  intro a na
  have hs := same_upd (o := HO.dK []) na
  have st := ok.alloc (c := .dct []) (H' := upd H a (.dK [])) na hs fun e => ⟨[], upd_same, rfl⟩
  have ha : (μ ++ [a])[I.length]? = some a := by rw [← ok.len]; simp
  refine prs_run h (rr.ext st.1 ok) st.2 ((RPost.bind (RPost.ext st.1 p)).imp (fun μ2 I2 H2 ps e2 ok2 p2 vs' rs => ?_) fun _ _ _ z => z)
  split at p2
  · rename_i kvs hk hc
    split at p2
    · rename_i hz
      obtain ⟨ks', g1, g2⟩ := keys_rep rs hk
      have ha2 := e2.pre _ _ ha
      obtain ⟨z, c1, c2⟩ := ok2.cell I.length _ a hc ha2
      cases c2
      refine ⟨c1, ks', g1, by rw [← RepP.length g2]; exact of_decide_eq_true hz, ?_⟩
      have st2 := ok2.write (c' := .dct (mergeD [] kvs)) (o := .dK (mergeK [] ks')) ha2 hc rfl rfl fun e => ⟨_, upd_same, merge_rep (g2.mono fun x y z => RepV.ext e ok2 x y z) rfl⟩
      exact p2 μ2 _ st2.1 st2.2 _ ⟨a, rfl, ha2⟩
    · exact p2.elim
  · exact p2.elim
/-- {} -/
def dict0E : EF := fun _ I => .ok (.loc I.length) (I ++ [.dct []])
theorem se_dict0 {pos : Pos} : SE X W (.Dict [] [] pos) dict0E := by
  refine pe_weak pe_dnewK fun σ H Q ⟨μ, ρ, I, rr, ok, p⟩ => ?_
  intro a na
  have st := ok.alloc (c := .dct []) (H' := upd H a (.dK [])) na (same_upd na) fun e => ⟨[], upd_same, rfl⟩
  exact p _ _ st.1 st.2 _ ⟨a, rfl, by rw [← ok.len]; simp⟩
/-! a dict of the written part, its keys texts -/
def kdIn (neg : Bool) (tb : List (List Nat × D)) (f : EF) : EF := fun ρ I => (f ρ I).bind fun x I1 => match x with
  | .str s => .ok (.bl (if neg then !(tb.lookup s).isSome else (tb.lookup s).isSome)) I1
  | _ => .stuck
def kdGet (tb : List (List Nat × D)) (f : EF) : EF := fun ρ I => (f ρ I).bind fun x I1 => match x with
  | .str s => optR I1 (tb.lookup s)
  | _ => .stuck
theorem se_kdIn {T : Str} {tb : List (List Nat × D)} {a : Expr} {f : EF} {p pos : Pos} (h : KdOk X.K X.w X.mg T tb) (hg : Gl X T) (hd : (T == ("__debug__" : Str)) = false) (ha : SE X W a f) : SE X W (.Compare a [.In] [.Name T p] pos) (kdIn false tb f) := by
  obtain ⟨d, es, n, h1, h2, h3⟩ := h
  have hT : PE X (.Name T p) (tC (.ref d)) := pe_glob hg h1 rfl hd
  refine pe_weak (pe_cmpR (op_in_kd h2) ha hT (noMarks rfl)) fun σ H Q ⟨μ, ρ, I, rr, ok, q⟩ => ?_
  refine then_E rr ok q fun μ1 I1 H1 x v e1 rr1 ok1 rd p1 => ?_
  split at p1
  · rename_i s
    cases rd
    have h4 := h3 s
    cases hl : tb.lookup s with
    | some y =>
      rw [hl] at h4 p1
      obtain ⟨u, v, g1, g2, g3⟩ := h4
      exact ⟨toS s, some u, rfl, rfl, g1, fin0 ok1 p1 rfl⟩
    | none =>
      rw [hl] at h4 p1
      exact ⟨toS s, none, rfl, rfl, h4, fin0 ok1 p1 rfl⟩
  · exact p1.elim
theorem st_kdIn {T : Str} {tb : List (List Nat × D)} {a : Expr} {f : EF} {p pos : Pos} (h : KdOk X.K X.w X.mg T tb) (hg : Gl X T) (hd : (T == ("__debug__" : Str)) = false) (ha : SE X W a f) : ST X W (.Compare a [.In] [.Name T p] pos) (boolE (kdIn false tb f)) := by
  obtain ⟨d, es, n, h1, h2, h3⟩ := h
  have hT : PE X (.Name T p) (tC (.ref d)) := pe_glob hg h1 rfl hd
  refine pt_weak (pt_cmpR (op_in_kd h2) ha hT (noMarks rfl)) fun σ H Q ⟨μ, ρ, I, rr, ok, q⟩ => ?_
  have q' := RPost.bind q
  refine then_E rr ok q' fun μ1 I1 H1 x v e1 rr1 ok1 rd p1 => ?_
  split at p1
  · rename_i s
    cases rd
    have h4 := h3 s
    have p2 := p1 μ1 H1 Ext.refl ok1
    cases hl : tb.lookup s with
    | some y =>
      rw [hl] at h4 p2
      obtain ⟨u, v, g1, g2, g3⟩ := h4
      exact ⟨toS s, some u, rfl, rfl, g1, _, rfl, p2 μ1 H1 Ext.refl ok1⟩
    | none =>
      rw [hl] at h4 p2
      exact ⟨toS s, none, rfl, rfl, h4, _, rfl, p2 μ1 H1 Ext.refl ok1⟩
  · exact p1.elim
theorem se_kdGet {T : Str} {tb : List (List Nat × D)} {b : Expr} {f : EF} {p pos : Pos} (h : KdOk X.K X.w X.mg T tb) (hg : Gl X T) (hd : (T == ("__debug__" : Str)) = false) (hs : notSlice b = true) (hb : SE X W b f) : SE X W (.Subscript (.Name T p) b pos) (kdGet tb f) := by
  obtain ⟨d, es, n, h1, h2, h3⟩ := h
  have hT : PE X (.Name T p) (tC (.ref d)) := pe_glob hg h1 rfl hd
  refine pe_weak (pe_ix ix_kdict hT hb (plainIx hs)) fun σ H Q ⟨μ, ρ, I, rr, ok, q⟩ => ?_
  refine then_E rr ok q fun μ1 I1 H1 x v e1 rr1 ok1 rd p1 => ?_
  split at p1
  · rename_i s
    cases rd
    have h4 := h3 s
    cases hl : tb.lookup s with
    | some y =>
      rw [hl] at h4 p1
      obtain ⟨u, v, g1, g2, g3⟩ := h4
      exact ⟨d, toS s, v, rfl, rfl, ⟨es, n, u, h2.at_, h2.lit, g1, g2⟩, fin0 ok1 p1 (g3 _ _ _)⟩
    | none => rw [hl] at p1; exact p1.elim
  · exact p1.elim
end
end MP
/-! MG1: a generator expression in all(), any(): the frame of the generator, its turns -/
namespace MG
open PySem PySem.Spec PyProof.Rows L2 GenW GxR

/-- the generator's context -/
abbrev gen (X : Cx) (s : Shared) (H : Hp) (env : Env) (A : Around) (fp : List Addr) (pn : List (Addr × Obj)) : Cx :=
  { X with A := A, s_0 := s, H_0 := H, env := env, outer := X.stack, stack := env :: X.stack, ex := fp, fn := fun _ => false, pn := pn, xe := fun _ _ => False }
section
variable {X : Cx} {pins : List (Addr × Obj)} {σ : L2.St} {H : Hp} {s : Shared}
theorem gen_start {scope : Scope} {own : List (Str × Nat)} {fp : List Addr} {pn : List (Addr × Obj)} {code : Value} {A : Around} {s5 : Shared} {m5 : Str → Option Value} {env : Env} (I : Inv X pins σ H s) (ok : BlkOk X.N X.env.scope scope own) (hN : X.N.Nodup)
    (hfp : ∀ b ∈ fp, FpOk X pins H b ∧ b < s.heap.objs.size) (henv : env = genEnv scope (cloFrom X.env.cells scope.names []) s.heap.objs.size code X.env.builtins X.env) (hA : A.frames = some (env :: X.stack)) (hd : X.calm = true → A.handled = none)
    (nocell : ∀ y ∈ scope.names, y.2 ≠ .cell) (hos : s5.os = s.os) (hb : AllBare s5.gens) (hk : ∀ b o, s.heap.get? b = some o → s5.heap.get? b = some o) (hns : s5.heap.Ns s.heap.objs.size m5)
    (hpn : ∀ p ∈ pn, s5.heap.get? p.1 = some p.2 ∧ s.heap.objs.size < p.1 ∧ ∀ v, p.2.data ≠ .cell v) :
    Inv (gen X s H env A fp pn) [] (wipe σ (own.map (·.2))) H s5 := by
  have hfree : ∀ y ∈ scope.names, y.2 = .free → ∃ c, X.env.cells.lookup y.1 = some c := fun y hy e => by
    rcases ok.free y hy e with k | k
    · exact I.ok.has _ (.inl k)
    · exact I.ok.has _ (.inr k)
  have hL : env.locals = s.heap.objs.size := by rw [henv]; rfl
  have hcl : env.cells = cloFrom X.env.cells scope.names [] := by rw [henv]; rfl
  have hsc : env.scope = scope := by rw [henv]; rfl
  have hfr : env.frame = some s.heap.objs.size := by rw [henv]; rfl
  have hgl : env.globals = X.env.globals := by rw [henv]; rfl
  have hbl : env.builtins = X.env.builtins := by rw [henv]; rfl
  clear henv
  have cm : ∀ {y c}, (y, c) ∈ cloFrom X.env.cells scope.names [] → X.env.cells.lookup y = some c ∧ c < s.heap.objs.size := fun {y c} hm => by
    rcases cloFrom_mem hm with hm | ⟨h1, rfl⟩
    · cases hm
    · obtain ⟨c, hc⟩ := hfree _ h1 rfl
      rw [hc]
      obtain ⟨w, z⟩ := I.cell _ _ hc
      exact ⟨rfl, z.lt⟩
  have mem : ∀ {y c}, env.cells.lookup y = some c → X.env.cells.lookup y = some c ∧ c < s.heap.objs.size := fun {y c} e => by
    rw [hcl] at e
    exact cm (PySem.mem_of_lookup e)
  have look : ∀ {y}, scope.names.lookup y = some .free → ∃ c, env.cells.lookup y = some c ∧ X.env.cells.lookup y = some c := fun {y} hl => by
    have hy : (y, NameKind.free) ∈ scope.names := PySem.mem_of_lookup hl
    obtain ⟨c', e'⟩ := mem_lookup (cloFrom_has (cells := X.env.cells) (acc := []) hy)
    rw [← hcl] at e'
    exact ⟨c', e', (mem e').1⟩
  have okB : (gen X s H env A fp pn).Ok := by
    refine ⟨I.ok.mod, by show env.scope.kind = _; rw [hsc]; exact ok.kind, by show env.globals = _; rw [hgl]; exact I.ok.glob, by show env.builtins = _; rw [hbl]; exact I.ok.blt, by show s.heap.objs.size ≤ env.locals; rw [hL]; exact Nat.le_refl _,
      fun y z c e1 e2 => ?_, fun y hy => ?_, fun y c z e => ?_, hd, hA, .inr ⟨rfl, by show env.frame = some env.locals; rw [hL, hfr]⟩, fun b hb => ⟨?_, fun y c e z => ?_⟩, I.bs, Nat.le_trans I.ok.bsz I.sz, fun b o e hb => ?_, fun b hb z => ?_, I.stack, I.stkFree⟩
    · exact I.ok.inj y z c (mem e1).1 (mem e2).1
    · show ∃ c, env.cells.lookup y = some c
      have hk : scope.names.lookup y = some .cell ∨ scope.names.lookup y = some .free := by
        have hy' : env.scope.names.lookup y = some .cell ∨ env.scope.names.lookup y = some .free := hy
        rwa [hsc] at hy'
      rcases hk with hk | hk
      · exact absurd rfl (nocell _ (PySem.mem_of_lookup hk))
      · obtain ⟨c, h1, _⟩ := look hk
        exact ⟨c, h1⟩
    · cases z
    · show b ≠ env.locals
      rw [hL]; exact Nat.ne_of_lt (hfp b hb).2
    · exact (hfp b hb).1.2.2.2.2.1 y c (mem e).1 z
    · rcases (hfp b hb).1.2.2.2.1 with z | z
      · exact I.ok.noex b o e z
      · exact absurd (Nat.lt_of_lt_of_le (Heap.lt_size e) (Nat.le_trans I.ok.bsz z)) (Nat.lt_irrefl _)
    · rcases List.mem_cons.mp (I.stkSub b z) with z | z
      · exact (hfp b hb).1.2.1 z
      · exact (hfp b hb).1.2.2.1 z
  refine ⟨okB, hos, hb, Un.kept hk, ⟨m5, ?_, fun i y av e1 e2 e3 => ?_⟩, fun y c e => ?_, ?_, fun y c e => ?_, fun p hp => ?_, I.hok.kept hk, by rw [wipe_length]; exact I.len⟩
  · show Heap.Ns _ env.locals _
    rw [hL]; exact hns
  · obtain ⟨e2, hne⟩ := wipe_some e2
    have e3 : Vis scope y := by
      have e3' : Vis env.scope y := e3
      rwa [hsc] at e3'
    have no : ∀ k, scope.names.lookup y = some k → ¬ (k = .local ∨ k = .cell) := fun k hk hh => by
      rcases ok.own _ (PySem.mem_of_lookup hk) hh with e' | e'
      · obtain ⟨p, hp, hpy⟩ := List.mem_map.mp e'
        have e4 := ok.ix p hp
        have : p.1 = y := hpy
        rw [this] at e4
        exact hne (List.mem_map.mpr ⟨p, hp, nodup_ix hN e4 e1⟩)
      · exact e' (List.mem_of_getElem? e1)
    have hfr : scope.names.lookup y = some .free := by
      rcases e3 with e3 | e3 | e3
      · exact absurd (.inl rfl) (no _ e3)
      · exact absurd (.inr rfl) (no _ e3)
      · exact e3
    obtain ⟨m, hn, hl⟩ := I.loc
    have hvis : Vis X.env.scope y := (ok.free _ (PySem.mem_of_lookup hfr) rfl).elim (fun k => .inr (.inl k)) (fun k => .inr (.inr k))
    obtain ⟨w, r, q⟩ := hl i y av e1 e2 hvis
    refine ⟨w, r, .inr ⟨.inr (by show env.scope.names.lookup y = some .free; rw [hsc]; exact hfr), ?_⟩⟩
    obtain ⟨c, h1, h2⟩ := look hfr
    rcases q with ⟨k, _⟩ | ⟨_, c', e', z⟩
    · have k : X.env.scope.names.lookup y = some .local := k
      rcases ok.free _ (PySem.mem_of_lookup hfr) rfl with k' | k' <;> rw [show X.env.scope.names.lookup y = _ from k'] at k <;> cases k
    · rw [h2] at e'; cases e'
      exact ⟨c, h1, z.keeps hk⟩
  · obtain ⟨w, z⟩ := I.cell y c (mem e).1
    exact ⟨w, z.keeps hk⟩
  · show H env.locals = none
    rw [hL]; exact I.hok.fresh (Nat.le_refl _)
  · exact I.freeC y c (mem e).1
  · have hp' : p ∈ pn := by
      have : p ∈ pn ++ [] := hp
      simpa using this
    obtain ⟨h1, h2, h3⟩ := hpn p hp'
    refine ⟨h1, I.hok.fresh (Nat.le_of_lt h2), ?_, ?_, h3⟩
    · show p.1 ≠ env.locals
      rw [hL]; exact Nat.ne_of_gt h2
    · intro z
      have hz := I.stkSub p.1 z
      rcases List.mem_cons.mp hz with z | z
      · have := I.lt
        rw [← z] at this
        exact absurd (Nat.lt_trans this h2) (Nat.lt_irrefl _)
      · exact I.nofs (Nat.le_of_lt h2) z
/-- between two turns: nothing of the heap is changed -/
structure Woke (s s' : Shared) : Prop where
  heap : s'.heap = s.heap
  os : s'.os = s.os
  bare : AllBare s'.gens
theorem inv_woke {X : Cx} {pins : List (Addr × Obj)} {σ : L2.St} {H : Hp} {s s' : Shared} (I : Inv X pins σ H s) (w : Woke s s') : Inv X pins σ H s' := by
  obtain ⟨h, g, d, t, o⟩ := s'
  obtain ⟨w1, w2, w3⟩ := w
  dsimp only at w1 w2 w3
  subst w1
  exact ⟨I.ok, w2.trans I.os, w3, I.base, I.loc, I.cell, I.free, I.freeC, I.pin, I.hok, I.len⟩
/-- what holds where a turn begins -/
structure At (XG : Cx) (σ : L2.St) (tn : Nat → Heap → Prop) (fp : List Addr) (i : Nat) (H : Hp) (s : Shared) : Prop where
  inv : Inv XG [] σ H s
  tn : tn i s.heap
  fp : ∀ b ∈ fp, H b = none
theorem At.woke {XG : Cx} {σ : L2.St} {tn : Nat → Heap → Prop} {fp : List Addr} {i : Nat} {H : Hp} {s s' : Shared} (a : At XG σ tn fp i H s) (w : Woke s s') : At XG σ tn fp i H s' :=
  ⟨inv_woke a.inv w, by rw [w.heap]; exact a.tn, a.fp⟩
def REnd (XG : Cx) (σ : L2.St) (QE : Hp → Prop) : GenEnd := fun _ _ r s => ((r = .ok (.ret .none) ∨ r = .ok .next) ∧ ∃ H', Inv XG [] σ H' s ∧ QE H') ∨ ∃ e, r = .error e ∧ False
def YTurn (XG : Cx) (σ : L2.St) (tn : Nat → Heap → Prop) (fp : List Addr) (go : Bool) (QS : Hp → Prop) : Protocol := fun _ _ v s kap =>
  ∃ b H', v = .bool b ∧ Inv XG [] σ H' s ∧ (b ≠ go → QS H') ∧ (b = go → ∀ s', Woke s s' → kap (.send .none) s')
/-- one turn: go: the element's value with which the consumer goes on -/
def TurnOf (J : It) (g : TG) (te : TE) (vs : List Nat) (σ0 : L2.St) (W : Nat → Nat → Hp → Prop) (go : Bool) (QE QS : Hp → Prop) : Prop := ∀ i m H, W i m H →
  (J.stop i H ∧ QE H) ∨ (J.go i H ∧ ∃ Nx : Hp → Prop, (∀ H', Nx H' → ∃ m', m' < m ∧ W (i + 1) m' H') ∧ ∀ x H', J.yld i H x H' → g x σ0 H' fun σ2 H2 => wipe σ2 vs = σ0 ∧
    te σ2 H2 fun y H3 => ∃ b, y = .bl b ∧ (b = go → Nx H3) ∧ (b ≠ go → QS H3))
theorem seg_loop {A Ag : Around} {elt tg iter : Expr} {scope : Scope} {pos : Pos} {s4 : Shared} {H4 : Hp} {env : Env} {fp : List Addr} {pn : List (Addr × Obj)} {it : Addr} {tn : Nat → Heap → Prop} {J : It} {g : TG} {te : TE} {vs : List Nat} {σ0 : L2.St} {W : Nat → Nat → Hp → Prop} {go : Bool} {QE QS : Hp → Prop}
    (hc : X.calm = true) (hA : A.over (.compLoop (.GeneratorExp elt [⟨tg, iter, [], 0⟩] scope pos) 0 (.ref it) .none env) [] = Ag) (hco : env.scope.isCoroutine = false)
    (T : Turn X.prog X.w X.K tg J fp it tn) (hpf : ∀ p ∈ pn, ∀ b ∈ fp, p.1 ≠ b)
    (pg : PG (gen X s4 H4 env Ag fp pn) tg g) (pe : PE (gen X s4 H4 env Ag fp pn) elt te) (turn : TurnOf J g te vs σ0 W go QE QS) :
    ∀ (n m i : Nat) (s₀ s : Shared) (H : Hp), m ≤ n → W i m H → At (gen X s4 H4 env Ag fp pn) σ0 tn fp i H s →
      Seg (model X.prog X.w) A (REnd (gen X s4 H4 env Ag fp pn) σ0 QE) (YTurn (gen X s4 H4 env Ag fp pn) σ0 tn fp go QS) (n + 1) s₀ (.compLoop (.GeneratorExp elt [⟨tg, iter, [], 0⟩] scope pos) 0 (.ref it) .none env)
        ((model X.prog X.w).den (.compLoop (.GeneratorExp elt [⟨tg, iter, [], 0⟩] scope pos) 0 (.ref it) .none env)) [] s := by
  have stat : ∀ {σ' : L2.St} {H' : Hp} {s' : Shared}, Inv (gen X s4 H4 env Ag fp pn) [] σ' H' s' → (∀ b ∈ fp, H' b = none) → ∀ b ∈ fp, FpOk (gen X s4 H4 env Ag fp pn) [] H' b := fun {σ' H' s'} I' hn b hb =>
    ⟨hn b hb, (I'.ok.exf b hb).1, I'.ok.exfs b hb, .inl hb, fun x c e => (I'.ok.exf b hb).2 x c e, fun p hp => hpf p (by
      have : p ∈ pn ++ [] := hp
      simpa using this) b hb⟩
  intro n
  induction n using Nat.strongRecOn with
  | ind n ih =>
    intro m i s₀ s H hm hW hat
    show Seg _ A _ _ _ s₀ _ ((compTurn (.GeneratorExp elt [⟨tg, iter, [], 0⟩] scope pos) 0 (.ref it) .none env).onRaise (leaving env)) [] s
    rw [compTurn_gen, Sem.onRaise_eq_wrap]
    refine seg_bind_wrap (wpAny_standAt ?_)
    rcases turn i m H hW with ⟨stop, qq⟩ | ⟨go', Nx, hNx, step⟩
    · refine seg_bind_wrap ?_
      rw [hA]
      refine wpAny_mono (T.done (gen X s4 H4 env Ag fp pn) rfl rfl rfl hc i [] s _ H (fun _ _ => False) hat.inv (stat hat.inv hat.fp) hat.tn stop) (fun r s6 h => ?_) fun _ _ z => False.elim z
      obtain ⟨rfl, I6⟩ := h
      exact seg_end (.ok .next) (.inl ⟨.inr rfl, H, I6, qq⟩)
    · refine seg_bind_wrap ?_
      rw [hA]
      refine wpAny_mono (T.item (gen X s4 H4 env Ag fp pn) rfl rfl rfl hc i [] s _ H (fun _ _ => False) hat.inv (stat hat.inv hat.fp) hat.tn go') (fun r s6 h => ?_) fun _ _ z => False.elim z
      obtain ⟨u, rfl, h6⟩ := h
      refine seg_bind_wrap ?_
      rw [hA]
      refine wpAny_mono h6 (fun _ s7 h7 => ?_) fun _ _ z => False.elim z
      obtain ⟨x, H7, I7, r7, y7, st7, n7⟩ := h7
      have I7' := I7.pinned (stat I7 n7) (T.obj _ _ st7)
      refine seg_bind_wrap ?_
      rw [hA]
      refine wpAny_mono (pg.run _ s7 _ H7 x u _ I7' r7 (step x H7 y7)) (fun _ s8 h8 => ?_) fun _ _ z => False.elim z
      obtain ⟨σ8, H8, I8, hw8, q8⟩ := h8
      refine seg_bind_wrap ?_
      simp only [List.forIn_nil]
      refine wpAny_pure ?_
      simp only [if_true]
      have hy : ∀ v, yieldOut env v = yieldValue v := fun v => by simp only [yieldOut, hco, Bool.false_eq_true, if_false]
      simp only [hy]
      rw [Sem.bind_eq_wrap', Sem.bind_eq_wrap', Sem.wrap_wrap, Sem.wrap_wrap]
      refine seg_wrap ?_
      rw [hA]
      refine wpAny_mono (pe.run _ s8 σ8 H8 _ I8 q8) (fun v s9 h9 => ?_) fun _ _ z => False.elim z
      obtain ⟨y, H9, I9, r9, b, rfl, q1, q2⟩ := h9
      obtain rfl : v = Value.bool b := r9
      have hl : σ0.length = σ8.length := by rw [← hw8, wipe_length]
      have J9 : Inv (gen X s4 H4 env Ag fp pn) [] σ0 H9 s9 := (I9.unpinned (pins := [])).weak hl fun j v e => by
        rw [← hw8] at e
        exact (wipe_some e).1
      have pin' : ∀ b ∈ fp, ∀ o, s7.heap.get? b = some o → s9.heap.get? b = some o ∧ H9 b = none := fun b hb o e =>
        let z := I9.pin (b, o) (List.mem_append_right _ (List.mem_append_right _ (mem_pinsAt hb e)))
        ⟨z.1, z.2.1⟩
      have at9 : At (gen X s4 H4 env Ag fp pn) σ0 tn fp (i + 1) H9 s9 := ⟨J9, T.keep _ _ _ st7 fun b hb o e => (pin' b hb o e).1, fun b hb => by
        obtain ⟨o, e, _⟩ := T.obj _ _ st7 b hb
        exact (pin' b hb o e).2⟩
      refine seg_at (seg_yield rfl rfl rfl ⟨b, H9, rfl, J9, q2, fun hb s'' w => ?_⟩)
      obtain ⟨m', hm', w'⟩ := hNx H9 (q1 hb)
      obtain ⟨n, rfl⟩ : ∃ k, n = k + 1 := ⟨n - 1, by omega⟩
      exact seg_again rfl (ih n (by omega) m' (i + 1) s'' s'' H9 (by omega) w' (at9.woke w))
theorem seg_start {A Ag : Around} {elt tg iter : Expr} {scope : Scope} {pos : Pos} {s4 : Shared} {H4 : Hp} {env : Env} {fp : List Addr} {pn : List (Addr × Obj)} {it : Addr} {tn : Nat → Heap → Prop} {J : It} {g : TG} {te : TE} {vs : List Nat} {σ0 : L2.St} {W : Nat → Nat → Hp → Prop} {go : Bool} {QE QS : Hp → Prop}
    (hc : X.calm = true) (hA : A.over (.compLoop (.GeneratorExp elt [⟨tg, iter, [], 0⟩] scope pos) 0 (.ref it) .none env) [] = Ag) (hco : env.scope.isCoroutine = false)
    (T : Turn X.prog X.w X.K tg J fp it tn) (hpf : ∀ p ∈ pn, ∀ b ∈ fp, p.1 ≠ b)
    (pg : PG (gen X s4 H4 env Ag fp pn) tg g) (pe : PE (gen X s4 H4 env Ag fp pn) elt te) (turn : TurnOf J g te vs σ0 W go QE QS)
    (n m : Nat) (s₀ s : Shared) (H : Hp) (hm : m ≤ n) (hW : W 0 m H) (hat : At (gen X s4 H4 env Ag fp pn) σ0 tn fp 0 H s) :
    Seg (model X.prog X.w) A (REnd (gen X s4 H4 env Ag fp pn) σ0 QE) (YTurn (gen X s4 H4 env Ag fp pn) σ0 tn fp go QS) (n + 1) s₀ (.compStart (.GeneratorExp elt [⟨tg, iter, [], 0⟩] scope pos) 0 (.ref it) .none env)
        ((model X.prog X.w).den (.compStart (.GeneratorExp elt [⟨tg, iter, [], 0⟩] scope pos) 0 (.ref it) .none env)) [] s := by
  have loop := seg_loop hc hA hco T hpf pg pe turn n m 0 s₀ s H hm hW hat
  show Seg _ A _ _ _ s₀ _ ((compStart (.GeneratorExp elt [⟨tg, iter, [], 0⟩] scope pos) 0 (.ref it) .none env).onRaise (leaving env)) [] s
  unfold compStart
  rw [Sem.onRaise_eq_wrap]
  show Seg _ A _ _ _ s₀ _ ((ask >>= _).wrap _ _ _ _) [] s
  refine seg_bind_wrap (wpAny_askSetting ?_)
  split
  · exact seg_again rfl loop
  · first
      | exact seg_bind_wrap (wpAny_rule (seg_bind_wrap (wpAny_standAt (seg_bind_wrap (T.self _ 0 s _ _ hat.tn (seg_again rfl loop))))))
      | (refine seg_bind_wrap (wpAny_rule ?_); show Seg _ A _ _ _ s₀ _ ((standAt iter.pos >>= _).wrap _ _ _ _) [] s; exact seg_bind_wrap (wpAny_standAt (seg_bind_wrap (T.self _ 0 s _ _ hat.tn (seg_again rfl loop)))))
/-! ### the consumer -/
theorem goes_imp {XG : Cx} {σ0 : L2.St} {tn : Nat → Heap → Prop} {fp : List Addr} {go : Bool} {QE QS : Hp → Prop} {gs : GenState} {B : Around} {n : Nat} {r : Resume} {s : Shared} (h : gs.Goes (model XG.prog XG.w) B (REnd XG σ0 QE) (YTurn XG σ0 tn fp go QS) n r s) :
    gs.Goes (model XG.prog XG.w) B (fun n s₀ r s₁ => ((r = .ok (.ret .none) ∨ r = .ok .next) ∧ (fun _ _ s₁ => ∃ H', Inv XG [] σ0 H' s₁ ∧ QE H') n s₀ s₁) ∨ ∃ e, r = .error e ∧ (fun _ _ => False) e s₁) (YTurn XG σ0 tn fp go QS) n r s := h
theorem next_turn {A : Around} {XG : Cx} {σ0 : L2.St} {tn : Nat → Heap → Prop} {fp : List Addr} {go : Bool} {QE QS : Hp → Prop} {a : Addr} {g : Nat} {Q : Option Value → Shared → Prop} {E : Value → Shared → Prop} (hh : A.handled = none) (hd : A.depth < recursionLimit) (hgen : ∀ {σ' : L2.St} {H' : Hp} {s' : Shared}, Inv XG [] σ' H' s' → s'.heap.IsGen a g)
    (N : Nat) (s : Shared) (hg : s.heap.IsGen a g) (hl : s.heap.NoLimit) (hgo : ∃ gs, s.gens[g]? = some gs ∧ gs.Goes (model XG.prog XG.w) A.in1 (REnd XG σ0 QE) (YTurn XG σ0 tn fp go QS) N (.send .none) (s.setGen g .running))
    (hE : ∀ s' H' h', Inv XG [] σ0 H' s' → QE H' → (∀ b o, s'.heap.get? b = some o → h'.get? b = some o) → AllBare (s'.setGen g .finished).gens → Q none { s'.setGen g .finished with heap := h' })
    (hS : ∀ b s' H', b ≠ go → Inv XG [] σ0 H' s' → QS H' → Q (some (.bool b)) s')
    (hG : ∀ M s', N = M + 1 → s'.heap.IsGen a g → s'.heap.NoLimit → (∃ gs, s'.gens[g]? = some gs ∧ gs.Goes (model XG.prog XG.w) A.in1 (REnd XG σ0 QE) (YTurn XG σ0 tn fp go QS) M (.send .none) (s'.setGen g .running)) → Q (some (.bool go)) s') :
    wpAny (model XG.prog XG.w) A (pyNext (.ref a)) Q E s := by
  obtain ⟨gs, hgs, hgo⟩ := hgo
  have hgl : g < s.gens.size := (Array.getElem?_eq_some_iff.mp hgs).1
  refine wpAny_gsz (n := g + 1) hgl (next_genG (A := A) hh hl hd hg hgs (goes_imp hgo) (fun v s₁ gs' hbare hv => ?_) (fun s₁ hp h' hk => ?_) fun e s₁ he => False.elim he)
  · intro hsz
    obtain ⟨b, H', rfl, I1, hS1, hk⟩ := hv
    have w1 : Woke s₁ (s₁.setGen g gs') := ⟨rfl, rfl, allBare_setGen I1.bare hbare⟩
    have I2 := inv_woke I1 w1
    by_cases hb : b = go
    · subst hb
      cases N with
      | zero => exact False.elim (hk rfl s₁ ⟨rfl, rfl, I1.bare⟩)
      | succ N =>
        have hsz1 : g < s₁.gens.size := by
          have q : (s₁.setGen g gs').gens.size = s₁.gens.size := setGen_size _ _ _
          have hsz' : g + 1 ≤ (s₁.setGen g gs').gens.size := hsz
          omega
        exact hG N (s₁.setGen g gs') rfl (hgen I2) I2.nolimit ⟨gs', setGen_at hsz1, hk rfl _ ⟨rfl, rfl, allBare_setGen (s := s₁.setGen g gs') (allBare_setGen I1.bare hbare) rfl⟩⟩
    · exact hS b _ H' hb I2 (hS1 hb)
  · intro hsz
    obtain ⟨H', I1, q⟩ := hp
    exact hE s₁ H' h' I1 q hk (allBare_setGen I1.bare rfl)
theorem all_loop {A : Around} {XG : Cx} {σ0 : L2.St} {tn : Nat → Heap → Prop} {fp : List Addr} {QE QS : Hp → Prop} {a : Addr} {g : Nat} {R : Result → Shared → Prop} (hh : A.handled = none) (hd : A.depth < recursionLimit) (hgen : ∀ {σ' : L2.St} {H' : Hp} {s' : Shared}, Inv XG [] σ' H' s' → s'.heap.IsGen a g)
    (hE : ∀ s' H' h', Inv XG [] σ0 H' s' → QE H' → (∀ b o, s'.heap.get? b = some o → h'.get? b = some o) → AllBare (s'.setGen g .finished).gens → R (.ok (.ret (.bool true))) { s'.setGen g .finished with heap := h' })
    (hS : ∀ s' H', Inv XG [] σ0 H' s' → QS H' → R (.ok (.ret (.bool false))) s') :
    ∀ (N : Nat) (s : Shared), s.heap.IsGen a g → s.heap.NoLimit → (∃ gs, s.gens[g]? = some gs ∧ gs.Goes (model XG.prog XG.w) A.in1.in1 (REnd XG σ0 QE) (YTurn XG σ0 tn fp true QS) N (.send .none) (s.setGen g .running)) →
      codeAny (model XG.prog XG.w) A (.builtin "all.loop" ⟨[.ref a], []⟩) R s := by
  intro N
  induction N using Nat.strongRecOn with
  | ind N ih =>
    intro s hg hl hgo
    refine codeAny_builtin F.entry_all_loop ?_
    rw [Around.under_plainId F.plain_all_loop _]
    show wpAny _ A.in1 (pyNext (.ref a) >>= _) _ _ s
    refine wpAny_bind (next_turn (A := A.in1) hh hd hgen N s hg hl hgo (fun s' H' h' I' q k b => ?_) (fun b s' H' hb I' q => ?_) fun M s' hM g1 g2 g3 => ?_)
    · exact wpAny_bind (wpAny_rule (wpAny_pure (hE s' H' h' I' q k b)))
    · obtain rfl : b = false := by simpa using hb
      refine wpAny_bind (wpAny_holding (wpAny_truthy_bool ?_))
      refine wpAny_bind (wpAny_letGo ?_)
      simp only [Bool.false_eq_true, if_false]
      exact wpAny_bind (wpAny_rule (wpAny_pure (hS s' H' I' q)))
    · refine wpAny_bind (wpAny_holding (wpAny_truthy_bool ?_))
      refine wpAny_bind (wpAny_letGo ?_)
      simp only [if_true]
      exact wpAny_pure ⟨plainId_quiet F.plain_all_loop _, ih M (by omega) s' g1 g2 g3⟩
theorem any_loop {A : Around} {XG : Cx} {σ0 : L2.St} {tn : Nat → Heap → Prop} {fp : List Addr} {QE QS : Hp → Prop} {a : Addr} {g : Nat} {R : Result → Shared → Prop} (hh : A.handled = none) (hd : A.depth < recursionLimit) (hgen : ∀ {σ' : L2.St} {H' : Hp} {s' : Shared}, Inv XG [] σ' H' s' → s'.heap.IsGen a g)
    (hE : ∀ s' H' h', Inv XG [] σ0 H' s' → QE H' → (∀ b o, s'.heap.get? b = some o → h'.get? b = some o) → AllBare (s'.setGen g .finished).gens → R (.ok (.ret (.bool false))) { s'.setGen g .finished with heap := h' })
    (hS : ∀ s' H', Inv XG [] σ0 H' s' → QS H' → R (.ok (.ret (.bool true))) s') :
    ∀ (N : Nat) (s : Shared), s.heap.IsGen a g → s.heap.NoLimit → (∃ gs, s.gens[g]? = some gs ∧ gs.Goes (model XG.prog XG.w) A.in1.in1 (REnd XG σ0 QE) (YTurn XG σ0 tn fp false QS) N (.send .none) (s.setGen g .running)) →
      codeAny (model XG.prog XG.w) A (.builtin "any.loop" ⟨[.ref a], []⟩) R s := by
  intro N
  induction N using Nat.strongRecOn with
  | ind N ih =>
    intro s hg hl hgo
    refine codeAny_builtin F.entry_any_loop ?_
    rw [Around.under_plainId F.plain_any_loop _]
    show wpAny _ A.in1 (pyNext (.ref a) >>= _) _ _ s
    refine wpAny_bind (next_turn (A := A.in1) hh hd hgen N s hg hl hgo (fun s' H' h' I' q k b => ?_) (fun b s' H' hb I' q => ?_) fun M s' hM g1 g2 g3 => ?_)
    · exact wpAny_bind (wpAny_rule (wpAny_pure (hE s' H' h' I' q k b)))
    · obtain rfl : b = true := by simpa using hb
      refine wpAny_bind (wpAny_holding (wpAny_truthy_bool ?_))
      refine wpAny_bind (wpAny_letGo ?_)
      simp only [if_true]
      exact wpAny_bind (wpAny_rule (wpAny_pure (hS s' H' I' q)))
    · refine wpAny_bind (wpAny_holding (wpAny_truthy_bool ?_))
      refine wpAny_bind (wpAny_letGo ?_)
      simp only [Bool.false_eq_true, if_false]
      exact wpAny_pure ⟨plainId_quiet F.plain_any_loop _, ih M (by omega) s' g1 g2 g3⟩
end
end MG
/-! MG2: a generator expression in all(), any(): made and consumed -/
namespace MG
open PySem PySem.Spec PyProof.Rows L2 GenW GxR

theorem over_frames {A : Around} {l : List Env} {elt tg iter : Expr} {scope : Scope} {pos : Pos} {it : Value} {env : Env} {c : Addr} (hA : A.frames = some l) (hf : env.frame = some c) :
    (A.over (.compLoop (.GeneratorExp elt [⟨tg, iter, [], 0⟩] scope pos) 0 it .none env) []).frames = some (env :: l) := by
  unfold Around.over
  dsimp only
  rw [hA]
  simp [pushEnvs, envsOf, Code.envs, Code.env?, Code.isFrame]
theorem over_depth {A : Around} {elt tg iter : Expr} {scope : Scope} {pos : Pos} {it : Value} {env : Env} : (A.over (.compLoop (.GeneratorExp elt [⟨tg, iter, [], 0⟩] scope pos) 0 it .none env) []).depth ≤ A.depth + 1 := by
  simp [Around.over, frameCount, Code.weight, Code.isCreation, Code.isGuard, Code.isCaller, Code.frames, Code.isFrame]
theorem over_units {A : Around} {elt tg iter : Expr} {scope : Scope} {pos : Pos} {it : Value} {env : Env} : (A.over (.compLoop (.GeneratorExp elt [⟨tg, iter, [], 0⟩] scope pos) 0 it .none env) []).units ≤ A.units + 8 := by
  simp [Around.over, unitsOf, Code.cUnits, Code.frames, Code.isFrame]

/-- all(elt for tg in iter), any(..): go: the element's value with which it goes on -/
def tGen (go : Bool) (wi : TI) (P : Addr) (g : TG) (te : TE) (vs : List Nat) : TE := fun σ H Q => wi σ H fun J H1 => TabG H1 P ∧ ∀ H2, Tabbed P H1 H2 →
  ∃ W : Nat → Nat → Hp → Prop, (∃ m, W 0 m H2) ∧ TurnOf J g te vs (wipe σ vs) W go (Q (.bl go)) (Q (.bl (!go)))
/-- the generator at a, made and not begun -/
def Rdy (X : Cx) (pins : List (Addr × Obj)) (σ : L2.St) (go : Bool) (Q : VK) (a : Addr) (s5 : Shared) : Prop :=
  ∃ (XG : Cx) (σ0 : L2.St) (tn : Nat → Heap → Prop) (fp : List Addr) (g N : Nat), XG.prog = X.prog ∧ XG.w = X.w ∧ s5.heap.IsGen a g ∧ s5.heap.NoLimit ∧ (∀ {σ' : L2.St} {H' : Hp} {s' : Shared}, Inv XG [] σ' H' s' → s'.heap.IsGen a g) ∧
    (∃ gs, s5.gens[g]? = some gs ∧ gs.Goes (model XG.prog XG.w) X.A.in1.in1 (REnd XG σ0 (Q (.bl go))) (YTurn XG σ0 tn fp go (Q (.bl (!go)))) N (.send .none) (s5.setGen g .running)) ∧
    ∀ (H' : Hp) (s' : Shared), Inv XG [] σ0 H' s' → Inv X pins σ H' s'
section
variable {X : Cx} {pins : List (Addr × Obj)} {σ : L2.St} {H : Hp} {s : Shared}
theorem gen_ready {c P : Addr} {elt tg iter : Expr} {scope : Scope} {own : List (Str × Nat)} {gpos : Pos} {wi : TI} {g : TG} {te : TE} {k : Nat} {go : Bool} {Q : VK} {Q' : Value → Shared → Prop}
    (hr : Room (k + 1) X.A) (hc : X.calm = true) (TB : TabB X.base X.mg c P) (hcode : X.env.code = .ref c) (hco : scope.isCoroutine = false) (nocell : ∀ y ∈ scope.names, y.2 ≠ .cell) (dot : scope.names.lookup (".0" : Str) = some NameKind.local)
    (ok : BlkOk X.N X.env.scope scope own) (hN : X.N.Nodup) (hi : PI X tg iter wi) (hs : ∀ v, genFold iter X.env v = pure v)
    (hpg : ∀ (s : Shared) (H : Hp) (env : Env) (A : Around) (fp : List Addr) (pn : List (Addr × Obj)), env.scope = scope → PG (gen X s H env A fp pn) tg g)
    (hpe : ∀ (s : Shared) (H : Hp) (env : Env) (A : Around) (fp : List Addr) (pn : List (Addr × Obj)), env.scope = scope → Room k A → PE (gen X s H env A fp pn) elt te)
    (I : Inv X pins σ H s) (h : tGen go wi P g te (own.map (·.2)) σ H Q) (hQ : ∀ a s5, Rdy X pins σ go Q a s5 → Q' (.ref a) s5) :
    wpAny (model X.prog X.w) X.A (eval (.GeneratorExp elt [⟨tg, iter, [], 0⟩] scope gpos) X.env) Q' X.xe s := by
  have hfree : ∀ y ∈ scope.names, y.2 = .free → ∃ c, X.env.cells.lookup y.1 = some c := fun y hy e => by
    rcases ok.free y hy e with k | k
    · exact I.ok.has _ (.inl k)
    · exact I.ok.has _ (.inr k)
  refine wpAny_GeneratorExp_make hco (closure_ok hfree) nocell dot ok.kind hr.depth ?_ hs
  refine thn (hi.run pins s σ H _ I h) fun xv s1 hx => thn hx fun itv s2 h2 => ?_
  obtain ⟨it, fp, tn, J, H2, rfl, I2, T, st2, f2, ⟨ps, hP, ht⟩, q⟩ := h2
  have hP2 : s2.heap.get? P = some { cls := .none, data := .fields ps } := I2.hok P _ hP
  have cd : PySem.W.CodeHd s2.heap c P := TB.code.keeps I2.bk
  have hPlt : P < s2.heap.objs.size := Heap.lt_size hP2
  have fpP : ∀ b ∈ fp, b ≠ P := fun b hb z => by
    have := (f2 b hb).1
    rw [z, hP] at this
    cases this
  have sz2 : ∀ b ∈ fp, b < s2.heap.objs.size := fun b hb => by
    obtain ⟨o, e, _⟩ := T.obj _ _ st2 b hb
    exact Heap.lt_size e
  have cont : ∀ (code : Value) (h3 : Heap) (tk : Nat) (ps' : Array Value), Heap.ExtBut P s2.heap h3 → s2.heap.objs.size ≤ h3.objs.size → h3.get? P = some { cls := .none, data := .fields ps' } → (∃ more, ps' = ps ++ more) → TriplesOk ps'.toList →
      wpAny (model X.prog X.w) X.A (builtinsFor X.env.globals X.env.builtins) (fun bi s₄ =>
        ∀ h', h'.Ns s₄.heap.objs.size (fun y => if y = ".0" then some (.ref it) else none) → Heap.SameBut s₄.heap.objs.size (s₄.heap.push { cls := .type "frame", data := .dict #[] }) h' →
          Q' (.ref h'.objs.size) { s₄ with
            gens := s₄.gens.push (.fresh (.compStart (.GeneratorExp elt [⟨tg, iter, [], 0⟩] scope gpos) 0 (.ref it) .none (genEnv scope (cloFrom X.env.cells scope.names []) s₄.heap.objs.size code bi X.env))),
            toks := s₄.toks + 1 + 1 + 1,
            heap := h'.push { cls := .type "generator", data := .fields #[.int s₄.gens.size 0, .str "<genexpr>" (s₄.toks + 1), .str (X.env.qual ++ "<genexpr>") (s₄.toks + 1 + 1)] } }) X.xe { s2 with heap := h3, toks := tk } := by
    intro code h3 tk ps' hx hsz hP3 hmore ht3
    obtain ⟨more, hmore⟩ := hmore
    have k3 : ∀ b o, b ≠ P → s2.heap.get? b = some o → h3.get? b = some o := fun b o hb e => hx b o hb e
    have I3 := inv_tab (more := more) (h' := h3) (g' := s2.gens) (d' := s2.drawn) (t' := tk) I2 hP k3 (by rw [← hmore]; exact hP3) I2.bare
    have hT3 : Tabbed P H2 (upd H2 P (.tbl (ps ++ more))) := ⟨⟨ps ++ more, upd_same, by rw [← hmore]; exact ht3⟩, fun b hb => upd_ne hb⟩
    obtain ⟨W, ⟨m0, w0⟩, turn⟩ := q _ hT3
    generalize hH3 : upd H2 P (.tbl (ps ++ more)) = H3 at I3 hT3 w0 turn
    have n3 : ∀ b ∈ fp, H3 b = none := fun b hb => by rw [hT3.2 b (fpP b hb)]; exact (f2 b hb).1
    obtain ⟨bm, ob, e1, e2, e3, e4, e5, e6, e7, e8⟩ := TB.bm
    refine wpAny_builtinsFor (m := X.mg) (by rw [I2.ok.glob]; exact (I2.mod.glob.keeps I2.bk).extBut hx TB.gP) e1 e2 (k3 _ _ e4 (I2.bk _ _ e5)) e6 e7 e8 ?_
    generalize hs4 : ({ s2 with heap := h3, toks := tk } : Shared) = s4
    have I4 : Inv X pins σ H3 s4 := by rw [← hs4]; exact I3
    have h4 : s4.heap = h3 := by rw [← hs4]
    have k24 : ∀ b o, b ≠ P → s2.heap.get? b = some o → s4.heap.get? b = some o := fun b o hb e => by rw [h4]; exact k3 b o hb e
    have sz4 : ∀ b ∈ fp, b < s4.heap.objs.size := fun b hb => by rw [h4]; exact Nat.lt_of_lt_of_le (sz2 b hb) hsz
    have f4 : ∀ b ∈ fp, FpOk X pins H3 b ∧ b < s4.heap.objs.size := fun b hb => ⟨⟨n3 b hb, (f2 b hb).2⟩, sz4 b hb⟩
    clear hs4
    intro h' hn' hsb
    have hsz' : h'.objs.size = s4.heap.objs.size + 1 := by rw [hsb.1, Heap.size_push]
    have keep' : ∀ b o, s4.heap.get? b = some o → h'.get? b = some o := fun b o e => hsb.extBut b o (Nat.ne_of_lt (Heap.lt_size e)) (Heap.get?_push_of_some _ e)
    generalize hgo : ({ cls := .type "generator", data := .fields #[.int s4.gens.size 0, .str "<genexpr>" (s4.toks + 1), .str (X.env.qual ++ "<genexpr>") (s4.toks + 1 + 1)] } : Obj) = gob
    have hgob : (h'.push gob).get? h'.objs.size = some gob := by rw [← hgo]; exact Heap.get?_push_size _ rfl
    have keep5 : ∀ b o, s4.heap.get? b = some o → (h'.push gob).get? b = some o := fun b o e => Heap.get?_push_of_some _ (keep' b o e)
    have hblt : X.env.builtins = builtinsNs := I4.ok.blt
    rw [← hblt]
    generalize henv : genEnv scope (cloFrom X.env.cells scope.names []) s4.heap.objs.size code X.env.builtins X.env = env
    have esc : env.scope = scope := by rw [← henv]; rfl
    have efr : env.frame = some s4.heap.objs.size := by rw [← henv]; rfl
    generalize hs5 : ({ s4 with gens := s4.gens.push (.fresh (.compStart (.GeneratorExp elt [⟨tg, iter, [], 0⟩] scope gpos) 0 (.ref it) .none env)), toks := s4.toks + 1 + 1 + 1, heap := h'.push gob } : Shared) = s5
    have s5h : s5.heap = h'.push gob := by rw [← hs5]
    have s5g : s5.gens = s4.gens.push (.fresh (.compStart (.GeneratorExp elt [⟨tg, iter, [], 0⟩] scope gpos) 0 (.ref it) .none env)) := by rw [← hs5]
    have s5o : s5.os = s4.os := by rw [← hs5]
    clear hs5
    have bare5 : AllBare s5.gens := by rw [s5g]; exact AllBare.push I4.bare rfl
    generalize hAg : (X.A.in1.in1).over (.compLoop (.GeneratorExp elt [⟨tg, iter, [], 0⟩] scope gpos) 0 (.ref it) .none env) [] = Ag
    have hfr : Ag.frames = some (env :: X.stack) := by rw [← hAg]; exact over_frames (show X.A.in1.in1.frames = some X.stack from I4.ok.frames) efr
    have hhd : Ag.handled = none := by rw [← hAg]; exact hr.hd
    have hroom : Room k Ag := by
      refine ⟨hhd, ?_, ?_⟩
      · have h1 := over_depth (A := X.A.in1.in1) (elt := elt) (tg := tg) (iter := iter) (scope := scope) (pos := gpos) (it := .ref it) (env := env)
        rw [hAg] at h1
        have h2 : X.A.in1.in1.depth = X.A.depth := rfl
        have := hr.dp
        omega
      · have h1 := over_units (A := X.A.in1.in1) (elt := elt) (tg := tg) (iter := iter) (scope := scope) (pos := gpos) (it := .ref it) (env := env)
        rw [hAg] at h1
        have h2 : X.A.in1.in1.units = X.A.units + 1 + 1 := rfl
        have := hr.un
        omega
    have hpnP : ∀ p ∈ [(h'.objs.size, gob)], s5.heap.get? p.1 = some p.2 ∧ s4.heap.objs.size < p.1 ∧ ∀ v, p.2.data ≠ .cell v := fun p hp => by
      rw [List.mem_singleton.mp hp]
      exact ⟨by rw [s5h]; exact hgob, by show s4.heap.objs.size < h'.objs.size; omega, fun v z => by rw [← hgo] at z; cases z⟩
    have I5 := gen_start (pn := [(h'.objs.size, gob)]) (A := Ag) (s5 := s5) (env := env) I4 ok hN f4 henv.symm hfr (fun _ => hhd) nocell s5o bare5 (fun b o e => by rw [s5h]; exact keep5 b o e)
      (by rw [s5h]; exact hn'.keeps fun b o e => Heap.get?_push_of_some _ e) hpnP
    have hgen : ∀ {σ' : L2.St} {H' : Hp} {s' : Shared}, Inv (gen X s4 H3 env Ag fp [(h'.objs.size, gob)]) [] σ' H' s' → s'.heap.IsGen h'.objs.size s4.gens.size := fun {σ' H' s'} I' => by
      have e := (I'.pin (h'.objs.size, gob) (List.mem_append_left _ (List.mem_singleton.mpr rfl))).1
      exact ⟨gob, .str "<genexpr>" (s4.toks + 1), .str (X.env.qual ++ "<genexpr>") (s4.toks + 1 + 1), e, by rw [← hgo], by rw [← hgo], by rw [← hgo]⟩
    have hgs : s5.gens[s4.gens.size]? = some (.fresh (.compStart (.GeneratorExp elt [⟨tg, iter, [], 0⟩] scope gpos) 0 (.ref it) .none env)) := by rw [s5g]; exact Array.getElem?_push_size ..
    have st5 : tn 0 s5.heap := T.keep _ _ _ st2 fun b hb o e => by rw [s5h]; exact keep5 b o (k24 b o (fpP b hb) e)
    have a5 : At (gen X s4 H3 env Ag fp [(h'.objs.size, gob)]) (wipe σ (own.map (·.2))) tn fp 0 H3 s5 := ⟨I5, st5, n3⟩
    refine hQ _ _ ⟨gen X s4 H3 env Ag fp [(h'.objs.size, gob)], wipe σ (own.map (·.2)), tn, fp, s4.gens.size, m0 + 1, rfl, rfl, hgen I5, I5.nolimit, fun I' => hgen I', ⟨_, hgs, rfl, ?_⟩, fun H' s' I' => ?_⟩
    · exact seg_start hc hAg (by rw [esc]; exact hco) T (fun p hp b hb z => by
        rw [List.mem_singleton.mp hp] at z
        have h1 := sz4 b hb
        have z' : h'.objs.size = b := z
        rw [← z', hsz'] at h1
        exact absurd (Nat.lt_of_succ_lt h1) (Nat.lt_irrefl _)) (hpg s4 H3 env Ag fp _ esc) (hpe s4 H3 env Ag fp _ esc hroom) turn m0 m0 _ _ H3 (Nat.le_refl _) w0 (a5.woke ⟨rfl, rfl, allBare_setGen bare5 rfl⟩)
    · exact I4.call' (ch := fp) I'.os I'.base I'.hok I'.bare fun b hb => ⟨(f4 b hb).1.2.2.2.1, (f4 b hb).1.2.1, (f4 b hb).1.2.2.2.2.1, (f4 b hb).1.2.2.2.2.2⟩
  refine ⟨I2.nolimit, ?_⟩
  cases hf : codeAmong gpos ps.toList with
  | none =>
    refine wpAny_genexprCodeX hcode (cd.code hP2 ht) (cd.tab hP2) hf fun c' h' tk hx hge hlt hco' _ htab' _ => ?_
    obtain ⟨o1, vs, f1, tf, fl, tg, inF, tx, tt, op, _, _, _, _, _, _, _, _, _, htr, _⟩ := hco'
    exact cont _ h' tk _ hx (Nat.le_trans hge (Nat.le_of_lt hlt)) htab'.2 ⟨_, rfl⟩ htr
  | some cv =>
    refine wpAny_genexprCode_hit hcode (cd.code hP2 ht) hf ?_
    exact cont cv s2.heap s2.toks ps (Heap.ExtBut.refl _ _) (Nat.le_refl _) hP2 ⟨#[], by simp⟩ ht
theorem pe_genAll {c P : Addr} {elt tg iter : Expr} {scope : Scope} {own : List (Str × Nat)} {p pos gpos : Pos} {wi : TI} {g : TG} {te : TE} {k : Nat}
    (hg : Gl X "all") (hm : X.mg "all" = none) (hb : bootBuiltins "all" = some (.builtin "all"))
    (hr : Room (k + 1) X.A) (hc : X.calm = true) (TB : TabB X.base X.mg c P) (hcode : X.env.code = .ref c) (hco : scope.isCoroutine = false) (nocell : ∀ y ∈ scope.names, y.2 ≠ .cell) (dot : scope.names.lookup (".0" : Str) = some NameKind.local)
    (ok : BlkOk X.N X.env.scope scope own) (hN : X.N.Nodup) (hi : PI X tg iter wi) (hs : ∀ v, genFold iter X.env v = pure v)
    (hpg : ∀ (s : Shared) (H : Hp) (env : Env) (A : Around) (fp : List Addr) (pn : List (Addr × Obj)), env.scope = scope → PG (gen X s H env A fp pn) tg g)
    (hpe : ∀ (s : Shared) (H : Hp) (env : Env) (A : Around) (fp : List Addr) (pn : List (Addr × Obj)), env.scope = scope → Room k A → PE (gen X s H env A fp pn) elt te)
    (he : starEach [.GeneratorExp elt [⟨tg, iter, [], 0⟩] scope gpos] X.env = (false, eval (.GeneratorExp elt [⟨tg, iter, [], 0⟩] scope gpos) X.env) :: starEach [] X.env := by rfl) :
    PE X (.Call (.Name "all" p) [.GeneratorExp elt [⟨tg, iter, [], 0⟩] scope gpos] [] pos) (tGen true wi P g te (own.map (·.2))) := by
  refine ⟨fun pins s σ H Q I h => ?_⟩
  refine wpAny_Call_Name_kw (ld_blt I hg hm hb ?_)
  refine PyProof.Rows.callWith_builtin1 ?_ he (by rfl)
  rw [he]
  show wpAny _ _ (spliced ((false, eval (.GeneratorExp elt [⟨tg, iter, [], 0⟩] scope gpos) X.env) :: backTo pos (starEach [] X.env))) _ _ s
  refine Calls.spliced_cons (gen_ready hr hc TB hcode hco nocell dot ok hN hi hs hpg hpe I h fun a s5 R => ?_)
  obtain ⟨XG, σ0, tn, fp, g', N, e1, e2, hgn, hlim, hgen, hgo, back⟩ := R
  refine Calls.spliced_nil ?_
  refine call_function_tree F.kind_all F.plain_all F.entry_all (F.args_all1 _) ?_
  unfold Builtin.«all»
  refine wpAny_bind (m := oneArg "all" _) (wpAny_pure ?_)
  refine wpAny_bind (wpAny_pyIter_gen hgn ?_)
  refine wpAny_pure ⟨plainId_quiet F.plain_all_loop _, ?_⟩
  rw [← e1, ← e2]
  refine all_loop (A := X.A) (XG := XG) hr.hd hr.depth hgen (fun s' H' h' I' q hk hb => ?_) (fun s' H' I' q => ?_) N s5 hgn hlim hgo
  · have J1 := inv_woke (back H' s' I') (s' := s'.setGen g' .finished) ⟨rfl, rfl, hb⟩
    exact ⟨.bl true, H', J1.kept (t' := s'.toks) hk, rfl, q⟩
  · exact ⟨.bl false, H', back H' s' I', rfl, q⟩
theorem pe_genAny {c P : Addr} {elt tg iter : Expr} {scope : Scope} {own : List (Str × Nat)} {p pos gpos : Pos} {wi : TI} {g : TG} {te : TE} {k : Nat}
    (hg : Gl X "any") (hm : X.mg "any" = none) (hb : bootBuiltins "any" = some (.builtin "any"))
    (hr : Room (k + 1) X.A) (hc : X.calm = true) (TB : TabB X.base X.mg c P) (hcode : X.env.code = .ref c) (hco : scope.isCoroutine = false) (nocell : ∀ y ∈ scope.names, y.2 ≠ .cell) (dot : scope.names.lookup (".0" : Str) = some NameKind.local)
    (ok : BlkOk X.N X.env.scope scope own) (hN : X.N.Nodup) (hi : PI X tg iter wi) (hs : ∀ v, genFold iter X.env v = pure v)
    (hpg : ∀ (s : Shared) (H : Hp) (env : Env) (A : Around) (fp : List Addr) (pn : List (Addr × Obj)), env.scope = scope → PG (gen X s H env A fp pn) tg g)
    (hpe : ∀ (s : Shared) (H : Hp) (env : Env) (A : Around) (fp : List Addr) (pn : List (Addr × Obj)), env.scope = scope → Room k A → PE (gen X s H env A fp pn) elt te)
    (he : starEach [.GeneratorExp elt [⟨tg, iter, [], 0⟩] scope gpos] X.env = (false, eval (.GeneratorExp elt [⟨tg, iter, [], 0⟩] scope gpos) X.env) :: starEach [] X.env := by rfl) :
    PE X (.Call (.Name "any" p) [.GeneratorExp elt [⟨tg, iter, [], 0⟩] scope gpos] [] pos) (tGen false wi P g te (own.map (·.2))) := by
  refine ⟨fun pins s σ H Q I h => ?_⟩
  refine wpAny_Call_Name_kw (ld_blt I hg hm hb ?_)
  refine PyProof.Rows.callWith_builtin1 ?_ he (by rfl)
  rw [he]
  show wpAny _ _ (spliced ((false, eval (.GeneratorExp elt [⟨tg, iter, [], 0⟩] scope gpos) X.env) :: backTo pos (starEach [] X.env))) _ _ s
  refine Calls.spliced_cons (gen_ready hr hc TB hcode hco nocell dot ok hN hi hs hpg hpe I h fun a s5 R => ?_)
  obtain ⟨XG, σ0, tn, fp, g', N, e1, e2, hgn, hlim, hgen, hgo, back⟩ := R
  refine Calls.spliced_nil ?_
  refine call_function_tree F.kind_any F.plain_any F.entry_any (F.args_any1 _) ?_
  unfold Builtin.«any»
  refine wpAny_bind (m := oneArg "any" _) (wpAny_pure ?_)
  refine wpAny_bind (wpAny_pyIter_gen hgn ?_)
  refine wpAny_pure ⟨plainId_quiet F.plain_any_loop _, ?_⟩
  rw [← e1, ← e2]
  refine any_loop (A := X.A) (XG := XG) hr.hd hr.depth hgen (fun s' H' h' I' q hk hb => ?_) (fun s' H' I' q => ?_) N s5 hgn hlim hgo
  · have J1 := inv_woke (back H' s' I') (s' := s'.setGen g' .finished) ⟨rfl, rfl, hb⟩
    exact ⟨.bl false, H', J1.kept (t' := s'.toks) hk, rfl, q⟩
  · exact ⟨.bl true, H', back H' s' I', rfl, q⟩
end
end MG
/-! MG3: all(e for t in it), any(..): the reading by trees -/
namespace MP
open PySem PySem.Spec PyProof.Rows L2
def tabAt (I : MH) (cls m : Str) : Bool := I.any fun c => match c with
  | .tab a b => a == cls && b == m
  | _ => false
noncomputable def genL (go : Bool) (ip : Itr) (ρ0 : En) (t : CTF) (te : EF) : List D → MH → Res D
  | [], I => if watchOk ip I then .ok (.bl go) I else .stuck
  | x :: xs, I => if watchOk ip I then (match t x ρ0 with
      | none => .stuck
      | some ρ1 => (te ρ1 I).calm.bind fun y I1 => match y with
        | .bl b => if b = go then genL go ip ρ0 t te xs I1 else .ok (.bl b) I1
        | _ => .stuck) else .stuck
noncomputable def genE (go : Bool) (cls m : Str) (it : IF) (own : List Nat) (t : CTF) (te : EF) : EF := fun ρ I =>
  (it ρ I).bind fun ip I1 => if tabAt I1 cls m then genL go ip (wipeR ρ own) t te ip.items I1 else .stuck
theorem wipe_wipe (σ : L2.St) (vs : List Nat) : wipe (wipe σ vs) vs = wipe σ vs := by
  have gen : ∀ (ws vs : List Nat), (∀ w ∈ ws, w ∈ vs) → wipe (wipe σ ws) vs = wipe σ vs := by
    intro ws
    induction ws with
    | nil => intro vs _; rfl
    | cons w ws ih =>
      intro vs hs
      show wipe ((wipe σ ws).set w none) vs = wipe σ vs
      rw [wipe_set (hs w List.mem_cons_self)]
      exact ih vs fun z hz => hs z (List.mem_cons_of_mem _ hz)
  exact gen vs vs fun _ h => h
section
variable {X : Cx} {W : WX}
theorem tab_cell {μ : List Addr} {I : MH} {H : Hp} {cls m : Str} {P : Addr} (ok : Ok X.K X.mg μ I H) (h : tabAt I cls m = true) (hT : ∀ a, TabId X.K X.mg cls m a → a = P) : ∃ n : Nat, I[n]? = some (.tab cls m) ∧ μ[n]? = some P ∧ TabId X.K X.mg cls m P ∧ GxR.TabG H P := by
  unfold tabAt at h
  obtain ⟨c, hc, hq⟩ := List.any_eq_true.mp h
  cases c with
  | tab a b =>
    dsimp only at hq
    have hq' := Bool.and_eq_true_iff.mp hq
    have e1 := eq_of_beq hq'.1
    have e2 := eq_of_beq hq'.2
    subst e1 e2
    obtain ⟨n, hn, e⟩ := List.mem_iff_getElem.mp hc
    have hn' : I[n]? = some (.tab a b) := by rw [List.getElem?_eq_getElem hn, e]
    have hm : n < μ.length := by rw [ok.len]; exact hn
    have hμ : μ[n]? = some μ[n] := List.getElem?_eq_getElem hm
    obtain ⟨h1, h2⟩ := ok.cell n _ _ hn' hμ
    have := hT _ h1
    rw [this] at hμ h1 h2
    exact ⟨n, hn', hμ, h1, h2⟩
  | _ => cases hq
theorem set_same {I : MH} {n : Nat} {c : Cell} (h : I[n]? = some c) : I.set n c = I := by
  obtain ⟨hn, e⟩ := List.getElem?_eq_some_iff.mp h
  rw [← e, List.set_getElem_self]
theorem tab_grown {μ : List Addr} {I : MH} {H H2 : Hp} {cls m : Str} {P : Addr} {n : Nat} (ok : Ok X.K X.mg μ I H) (hn : I[n]? = some (.tab cls m)) (hμ : μ[n]? = some P) (hi : TabId X.K X.mg cls m P) (t : GxR.Tabbed P H H2) :
    Ext μ I H μ I H2 ∧ Ok X.K X.mg μ I H2 := by
  obtain ⟨⟨ps, h1, h2⟩, h3⟩ := t
  have e : H2 = upd H P (.tbl ps) := by
    funext b
    by_cases hb : b = P
    · rw [hb, upd_same, h1]
    · rw [upd_ne hb, h3 b hb]
  subst e
  have st := ok.write (c' := .tab cls m) (o := .tbl ps) hμ hn rfl rfl fun e' => ⟨hi, ps, upd_same, h2⟩
  rw [set_same hn] at st
  exact st
theorem gen_read {go : Bool} {cls m : Str} {P : Addr} {it : IF} {g : TG} {t : CTF} {te : EF} {own : List Nat} (hT : ∀ a, TabId X.K X.mg cls m a → a = P) (hg : GOK X g t own) (σ : L2.St) (H : Hp) (Q : VK) (h : tE X W (genE go cls m it own t te) σ H Q) :
    MG.tGen go (tI X W it) P g (tE X (fun _ _ _ _ => False) te) own σ H Q := by
  obtain ⟨μ, ρ, I, rr, ok, p⟩ := h
  refine ⟨μ, ρ, I, rr, ok, (RPost.bind p).imp (fun μ1 I1 H1 ip e1 ok1 q J sim => ?_) fun _ _ _ z => z⟩
  split at q
  · rename_i htab
    obtain ⟨n, hn, hμ, hid, hTG⟩ := tab_cell ok1 htab hT
    refine ⟨hTG, fun H2 ht2 => ?_⟩
    obtain ⟨e2, ok2⟩ := tab_grown ok1 hn hμ hid ht2
    have rr1 := ((rr.ext e1 ok).ext e2 ok1).wipe own
    refine ⟨fun i m H => m = ip.items.length - i ∧ i ≤ ip.items.length ∧ ∃ μ I, Ok X.K X.mg μ I H ∧ Ext μ1 I1 H2 μ I H ∧ RPost X.K X.mg (fun c dd H' => W c dd σ H') μ I H (sE X Q) (genL go ip (wipeR ρ own) t te (ip.items.drop i) I),
      ⟨_, rfl, Nat.zero_le _, _, _, ok2, Ext.refl, RPost.ext e2 q⟩, ?_⟩
    rintro i m H ⟨rfl, hi, μ, I, ok', e, p⟩
    by_cases hlt : i < ip.items.length
    · refine .inr ?_
      rw [List.drop_eq_getElem_cons hlt] at p
      unfold genL at p
      split at p
      · rename_i hw
        have hd : ip.items[i]? = some ip.items[i] := List.getElem?_eq_getElem hlt
        obtain ⟨go', yl⟩ := (sim μ I H (e2.trans e) ok' hw i).1 _ hd
        refine ⟨go', fun H' => ∃ μ I, Ok X.K X.mg μ I H' ∧ Ext μ1 I1 H2 μ I H' ∧ RPost X.K X.mg (fun c dd H' => W c dd σ H') μ I H' (sE X Q) (genL go ip (wipeR ρ own) t te (ip.items.drop (i + 1)) I),
          fun H' h => ⟨ip.items.length - (i + 1), by omega, rfl, hlt, h⟩, fun x H' hy => ?_⟩
        obtain ⟨sm, rx⟩ := yl x H' hy
        have ex : Ext μ I H μ I H' := Ext.same sm
        have okx : Ok X.K X.mg μ I H' := ok'.same sm
        have rrx : RepR X.K μ I H' (wipeR ρ own) (wipe σ own) := (rr1.ext e ok2).ext ex ok'
        split at p
        · exact p.elim
        · rename_i ρ1 ht
          refine hg μ (wipeR ρ own) I _ x _ H' ρ1 rrx okx rx ht _ fun σ2 rr2 hw2 => ⟨by rw [hw2, wipe_wipe], μ, ρ1, I, rr2, okx, ?_⟩
          have p1 := RPost.bind (RPost.ext ex p)
          cases hy2 : te ρ1 I with
          | err z I3 => rw [hy2] at p1; exact p1.elim
          | stuck => rw [hy2] at p1; exact p1.elim
          | ok y I3 =>
            rw [hy2] at p1
            intro μ3 H3 e3 ok3 v rv
            have p6 := p1 μ3 H3 e3 ok3
            dsimp only at p6
            split at p6
            · rename_i b
              obtain rfl : v = .bl b := rv
              refine ⟨b, rfl, fun hb => ?_, fun hb => ?_⟩
              · rw [if_pos hb] at p6
                exact ⟨μ3, I3, ok3, e.trans (ex.trans e3), p6⟩
              · rw [if_neg hb] at p6
                have eb : b = !go := by cases b <;> cases go <;> simp_all
                rw [← eb]
                exact p6 μ3 H3 Ext.refl ok3 (.bl b) rfl
            · exact p6.elim
      · exact p.elim
    · refine .inl ?_
      have he : i = ip.items.length := by omega
      subst he
      rw [List.drop_length] at p
      unfold genL at p
      split at p
      · rename_i hw
        exact ⟨(sim μ I H (e2.trans e) ok' hw _).2 (Nat.le_refl _), p μ H Ext.refl ok' (.bl go) rfl⟩
      · exact p.elim
  · exact q.elim
end
end MP
/-! MP9: from the written text to its reading by trees, and that it is right -/
namespace MP
open PySem PySem.Spec L2

def mapO {α β : Type} (f : α → Option β) : List α → Option (List β)
  | [] => some []
  | x :: xs => match f x, mapO f xs with
    | some y, some ys => some (y :: ys)
    | _, _ => none
theorem mapO_pair {α β : Type} {f : α → Option β} {R : α → β → Prop} (h : ∀ x y, f x = some y → R x y) : ∀ {xs : List α} {ys : List β}, mapO f xs = some ys → Paired R xs ys
  | [], _, e => by cases e; exact .nil
  | x :: xs, ys, e => by
    unfold mapO at e
    split at e
    · rename_i y zs h1 h2
      cases e
      exact .cons (h _ _ h1) (mapO_pair h h2)
    · cases e
def isGl (C : CC) (x : Str) : Bool := C.sc.names.lookup x == some .globalImplicit
def plainNm (x : Str) : Bool := !(x == ("__debug__" : Str)) && !(x == ("__classdict__" : Str)) && !(x == ("__name__" : Str))
def cName (C : CC) (x : Str) : Option EF := if plainNm x then (match C.sc.names.lookup x with
  | some .local => (idx x C.N).map getV
  | some .cell => (idx x C.N).map getV
  | some .free => (idx x C.N).map getV
  | some .globalImplicit => (C.cst.lookup x).map cV
  | _ => none) else none
def cConst : Const → Option EF
  | .none => some (cV .non)
  | .bool b => some (cV (.bl b))
  | .int i => some (cV (.int i))
  | .str s => some (cV (.str s.cps.toList))
  | _ => none
def foldE (op : BoolOp) : List EF → Option EF
  | [] => none
  | [f] => some f
  | f :: g :: fs => (foldE op (g :: fs)).map fun h => match op with
    | .And => andE f h
    | .Or => orE f h
def foldT (op : BoolOp) : List TF → Option TF
  | [] => none
  | [f] => some f
  | f :: g :: fs => (foldT op (g :: fs)).map fun h => match op with
    | .And => andT f h
    | .Or => orT f h
/-- a built-in function or class, called -/
def bltOf (x : Str) : Option (Value × (List D → MH → Res D)) :=
  if x = "len" then some (.builtin "len", lenD) else if x = "int" then some (.type "int", intD) else if x = "ord" then some (.builtin "ord", ordD)
  else if x = "tuple" then some (.type "tuple", tupleD) else if x = "list" then some (.type "list", listD) else if x = "all" then some (.builtin "all", allD) else if x = "any" then some (.builtin "any", anyD) else none
def mtOf (m : Str) : Option ((D → MH → Bool) × (D → List D → MH → Res D)) :=
  if m = "find" then some (isStr, findD) else if m = "endswith" then some (isStr, endswithD) else if m = "startswith" then some (isStr, startswithD) else if m = "join" then some (isStr, joinD)
  else if m = "append" then some (isLst, appendD) else if m = "extend" then some (isLst, extendD) else none
def tyOf (x : Str) : Option String := asked.find? fun t => Str.ofString t == x
def cIsi (r : Expr → Option EF) (C : CC) (es : List Expr) : Option EF := match es with
  | [a, .Name T _] => match tyOf T with
    | some t => if isGl C T && C.blt.contains T && plainNm T && notStar a then (r a).map (un1 (isiD t)) else none
    | none => none
  | _ => none
def cCall (r : Expr → Option EF) (C : CC) (x : Str) (es : List Expr) : Option EF :=
  if isGl C x && plainNm x && es.all notStar && !es.isEmpty then (match C.fns.lookup x with
    | some (n, F) => (mapO r es).map (callE n F)
    | none => match C.mks.lookup x with
      | some (n, F) => (mapO r es).map (makeE x n F)
      | none => if C.blt.contains x then (if x = "isinstance" then cIsi r C es else match bltOf x with
        | some (_, g) => (mapO r es).map (bltE g)
        | none => none) else none) else none
def cMeth (r : Expr → Option EF) (o : Expr) (m : Str) (es : List Expr) (apos cpos : Pos) : Option EF :=
  if baseOk o && es.all notStar && decide (es.length < 30) && (apos.endLine == cpos.line) && !es.isEmpty then (match mtOf m with
    | some (p, g) => match r o, mapO r es with
      | some f, some fs => some (methE p g f fs)
      | _, _ => none
    | none => none) else none
def isOwnM (C : CC) (m : Str) : Bool := C.mth.any fun q => q.1.2 == m
def cMethO (r : Expr → Option EF) (C : CC) (o : Expr) (m : Str) (es : List Expr) (apos cpos : Pos) : Option EF :=
  if baseOk o && es.all notStar && decide (es.length < 30) && (apos.endLine == cpos.line) then (match r o, mapO r es with
    | some f, some fs => some (callM C.mth m f fs)
    | _, _ => none) else none
def kdOf (C : CC) : Expr → Option (List (List Nat × D))
  | .Name T _ => if isGl C T && plainNm T then C.kds.lookup T else none
  | _ => none
def cmpD' : CmpOp → Option (D → D → MH → Res D)
  | .In => some (inDD false)
  | .NotIn => some (inDD true)
  | op => cmpD op
/-- comparison of two: with a dict of the written part, or any -/
def cCmp (r : Expr → Option EF) (C : CC) (a : Expr) (op : CmpOp) (b : Expr) : Option EF := match (if op = .In then kdOf C b else none) with
  | some tb => (r a).map (kdIn false tb)
  | none => if notSet b then (match r a, r b, cmpD' op with
      | some f, some h, some g => some (bin2 g f h)
      | _, _, _ => none) else none
def cIx (r : Expr → Option EF) (C : CC) (a b : Expr) : Option EF := if notSlice b then (match kdOf C a with
  | some tb => (r b).map (kdGet tb)
  | none => (match r a, r b with
      | some f, some h => some (bin2 ixDD f h)
      | _, _ => none)) else none
def cDict (r : Expr → Option EF) (keys : List (Option Expr)) (vals : List Expr) : Option EF := match keys, vals with
  | [], [] => some dict0E
  | keys, vals => (match mapO id keys with
    | some ks => if decide (ks.length = vals.length) && !ks.isEmpty && decide (ks.length ≤ 15) then (match mapO r ks, mapO r vals with
        | some fs, some gs => some (dictE (fs.zip gs))
        | _, _ => none) else none
    | none => none)
def cPart (r : Expr → Option EF) : Option Expr → Option (Option EF)
  | none => some none
  | some e => (r e).map some
def cIt (r : Expr → Option EF) (C : CC) (e : Expr) : Option IF := if notSet e then (match e with
  | .Call (.Name x p) [a] [] q => if x = "range" then (if isGl C x && C.blt.contains x && notStar a then (r a).map rng1I else none) else (r (.Call (.Name x p) [a] [] q)).map seqI
  | .Call (.Name x p) [a, b] [] q => if x = "range" then (if isGl C x && C.blt.contains x && notStar a && notStar b then (match r a, r b with
      | some f, some g => some (rng2I f g)
      | _, _ => none) else none) else (r (.Call (.Name x p) [a, b] [] q)).map seqI
  | e => (r e).map seqI) else none
def tgNames : Expr → Option (List Str)
  | .Name x _ => some [x]
  | .Tuple es _ _ => mapO isName es
  | _ => none
def ownOf (C : CC) (tg : Expr) : Option (List (Str × Nat)) := (tgNames tg).bind fun xs => mapO (fun x => (idx x C.N).map fun i => (x, i)) xs
def blkCC (C : CC) (scope : Scope) : CC := { C with sc := relS scope C.sc, isDef := false, tab := none }
/-- a generator's own -/
def genCC (C : CC) (scope : Scope) : CC := { C with sc := scope, isDef := false, tab := none }
structure CompParts where
  it : IF
  own : List (Str × Nat)
  t : CTF
  ttf : TF
  te : EF
def tgT (tg : Expr) (is : List Nat) : CTF := match tg with
  | .Name _ _ => ctName (is.getD 0 0)
  | _ => ctTup is
def cComp (r : CC → Expr → Option EF) (rt : CC → Expr → Option TF) (C : CC) (elt : Expr) (gens : List Comprehension) (scope : Scope) : Option CompParts := match gens with
  | [⟨tg, iter, ifs, asy⟩] => if decide (asy = 0) && notSet iter then (match ownOf C tg with
    | some own => if blkC C.N C.sc scope own && own.all (fun p => (relS scope C.sc).names.lookup p.1 == some .local) then (match cIt (r C) C iter, r (blkCC C scope) elt with
      | some it, some te =>
        (match ifs with
        | [] => some ⟨it, own, tgT tg (own.map (·.2)), yesT, te⟩
        | [c] => (rt (blkCC C scope) c).map fun ttf => ⟨it, own, tgT tg (own.map (·.2)), ttf, te⟩
        | _ => none)
      | _, _ => none) else none
    | none => none) else none
  | _ => none
def plainIter : Expr → Bool
  | .Name .. => true
  | .Attribute .. => true
  | .Subscript .. => true
  | .Call .. => true
  | _ => false
def genOk (C : CC) (scope : Scope) (own : List (Str × Nat)) : Bool := !scope.isCoroutine && (scope.names.all fun y => decide (y.2 ≠ .cell)) && (scope.names.lookup (".0" : Str) == some .local) && blkC C.N C.sc scope own && own.all fun p => scope.names.lookup p.1 == some .local
/-- all(e for t in it), any(..) -/
noncomputable def cGen (r : CC → Expr → Option EF) (C : CC) (x : Str) (elt : Expr) (gens : List Comprehension) (scope : Scope) : Option EF := match C.tab, gens with
  | some q, [⟨tg, iter, [], asy⟩] => if (x == "all" || x == "any") && isGl C x && C.blt.contains x && decide (asy = 0) && notSet iter && plainIter iter then (match ownOf C tg with
    | some own => if genOk C scope own then (match cIt (r C) C iter, r (genCC C scope) elt with
      | some it, some te => some (genE (x == "all") q.1 q.2 it (own.map (·.2)) (tgT tg (own.map (·.2))) te)
      | _, _ => none) else none
    | none => none) else none
  | _, _ => none

mutual
noncomputable def cE : Nat → CC → Expr → Option EF
  | 0, _, _ => none
  | n + 1, C, e => match e with
    | .Name x _ => cName C x
    | .Constant c _ _ => cConst c
    | .BinOp a op b _ => match cE n C a, cE n C b, binD' op with
      | some f, some h, some g => some (bin2 g f h)
      | _, _, _ => none
    | .UnaryOp .Not a _ => (cE n C a).map (un1 notB)
    | .UnaryOp .USub a _ => (cE n C a).map (un1 negD)
    | .BoolOp op vs _ => (mapO (cE n C) vs).bind (foldE op)
    | .Compare a [op] [b] _ => cCmp (cE n C) C a op b
    | .Compare a [op, op'] [b, c] _ => if notSet c then (match cE n C a, cE n C b, cE n C c, cmpD op, cmpD op' with
      | some f, some h, some h', some g, some g' => some (chain2 g g' f h h')
      | _, _, _, _, _ => none) else none
    | .IfExp c a b _ => match cT n C c, cE n C a, cE n C b with
      | some t, some f, some g => some (ifE t f g)
      | _, _, _ => none
    | .Tuple es _ _ => if es.all notStar then (mapO (cE n C) es).map tupE else none
    | .List es _ => if es.all notStar then (mapO (cE n C) es).map lstE else none
    | .Subscript a (.Slice lo hi none _) _ => match cE n C a, cPart (cE n C) lo, cPart (cE n C) hi with
      | some f, some l, some h => some (sliceE f l h)
      | _, _, _ => none
    | .Subscript a b _ => cIx (cE n C) C a b
    | .Attribute o m _ => if baseOk o then (cE n C o).map (attrE C.cls m) else none
    | .Dict keys vals _ => cDict (cE n C) keys vals
    | .Call (.Name x _) [.GeneratorExp elt gens scope _] [] _ => cGen (cE n) C x elt gens scope
    | .Call (.Name x _) es [] _ => cCall (cE n C) C x es
    | .Call (.Attribute o m apos) es [] cpos => if isOwnM C m then cMethO (cE n C) C o m es apos cpos else cMeth (cE n C) o m es apos cpos
    | .ListComp elt gens scope _ => (cComp (cE n) (cT n) C elt gens scope).map fun p => lcE p.it (p.own.map (·.2)) p.t p.ttf p.te
    | _ => none
noncomputable def cT : Nat → CC → Expr → Option TF
  | 0, _, _ => none
  | n + 1, C, e => match e with
    | .UnaryOp .Not a _ => (cT n C a).map notT
    | .BoolOp op vs _ => (mapO (cT n C) vs).bind (foldT op)
    | .Compare a ops bs p => match ops, bs with
      | [op], [b] => (cCmp (cE n C) C a op b).map boolE
      | [op, op'], [b, c] => if notSet c then (match cE n C a, cE n C b, cE n C c, cmpD op, cmpD op' with
        | some f, some h, some h', some g, some g' => some (boolE (chain2 g g' f h h'))
        | _, _, _, _, _ => none) else none
      | _, _ => none
    | e => if plainTest e then (cE n C e).map truE else none
end

/-! ### it is right -/
theorem toS_list (s : Str) : toS s.cps.toList = s := by
  cases s; simp [toS]
theorem plain_nm {x : Str} (h : plainNm x = true) : (x == ("__debug__" : Str)) = false ∧ (x == ("__classdict__" : Str)) = false ∧ x ≠ "__name__" := by
  unfold plainNm at h
  have h1 := Bool.and_eq_true_iff.mp h
  have h2 := Bool.and_eq_true_iff.mp h1.1
  refine ⟨by simpa using h2.1, by simpa using h2.2, fun z => ?_⟩
  rw [z] at h1
  exact absurd h1.2 (by decide)
section
variable {X : Cx} {C : CC} {W : WX} {k : Nat}
theorem gl_of (M : Mt X C W k) {x : Str} (h : isGl C x = true) : Gl X x := by
  show X.env.scope.names.lookup x = some .globalImplicit
  rw [M.sc]
  exact eq_of_beq h
theorem name_ok (M : Mt X C W k) {x : Str} {pos : Pos} {f : EF} (h : cName C x = some f) : SE X W (.Name x pos) f := by
  unfold cName at h
  split at h
  · rename_i hp
    obtain ⟨h1, h2, h3⟩ := plain_nm hp
    have loc : ∀ f, (idx x C.N).map getV = some f → Vis X.env.scope x → SE X W (.Name x pos) f := fun f e hv => by
      cases hi : idx x C.N with
      | none => rw [hi] at e; cases e
      | some i =>
        rw [hi] at e; cases e
        exact se_var (by rw [M.N]; exact idx_get hi) hv h1 h2
    split at h
    · rename_i e; exact loc f h (.inl (by rw [M.sc]; exact e))
    · rename_i e; exact loc f h (.inr (.inl (by rw [M.sc]; exact e)))
    · rename_i e; exact loc f h (.inr (.inr (by rw [M.sc]; exact e)))
    · rename_i e
      cases hc : C.cst.lookup x with
      | none => rw [hc] at h; cases h
      | some d =>
        rw [hc] at h; cases h
        obtain ⟨u, v, m1, m2, m3⟩ := M.mdl.cst x d hc
        exact se_const (pe_glob (show X.env.scope.names.lookup x = _ by rw [M.sc]; exact e) m1 m2 h1) m3
    · cases h
  · cases h
theorem const_ok {c : Const} {j : Nat} {pos : Pos} {f : EF} (h : cConst c = some f) : SE X W (.Constant c j pos) f := by
  cases c with
  | none => cases h; exact se_const pe_non fun _ _ _ => rfl
  | bool b => cases h; exact se_const pe_bl fun _ _ _ => rfl
  | int i => cases h; exact se_const pe_int fun _ _ _ => rfl
  | str s => cases h; exact se_const pe_str fun _ _ _ => by show V.str s = V.str (toS s.cps.toList); rw [toS_list]
  | _ => cases h
theorem foldE_ok {op : BoolOp} {pos : Pos} : ∀ {vs : List Expr} {fs : List EF} {F : EF}, Paired (SE X W) vs fs → foldE op fs = some F → SE X W (.BoolOp op vs pos) F
  | [], _, _, .nil, h => by cases h
  | [a], [f], _, .cons h .nil, e => by cases e; exact pe_one h
  | a :: b :: vs, f :: g :: fs, F, .cons h (.cons h' t), e => by
    unfold foldE at e
    cases e2 : foldE op (g :: fs) with
    | none => rw [e2] at e; cases e
    | some G =>
      rw [e2] at e
      have ih := foldE_ok (pos := pos) (.cons h' t) e2
      cases op with
      | And => cases e; exact se_and h ih
      | Or => cases e; exact se_or h ih
theorem foldT_ok {op : BoolOp} {pos : Pos} : ∀ {vs : List Expr} {fs : List TF} {F : TF}, Paired (ST X W) vs fs → foldT op fs = some F → SW X W (.BoolOp op vs pos) F
  | [], _, _, .nil, h => by cases h
  | [a], [f], _, .cons h .nil, e => by
    cases e
    cases op with
    | And => exact pw_and1 h
    | Or => exact pw_or1 h
  | a :: b :: vs, f :: g :: fs, F, .cons h (.cons h' t), e => by
    unfold foldT at e
    cases e2 : foldT op (g :: fs) with
    | none => rw [e2] at e; cases e
    | some G =>
      rw [e2] at e
      have ih := foldT_ok (pos := pos) (.cons h' t) e2
      cases op with
      | And => cases e; exact sw_and h ih
      | Or => cases e; exact sw_or h ih
theorem blt_ok {x : Str} {v : Value} {g : List D → MH → Res D} (hc : X.calm = true) (h : bltOf x = some (v, g)) : CallR X v (rSn X g) ∧ bootBuiltins x = some v ∧ ((∃ id, v = .builtin id) ∨ ∃ T, v = .type T) := by
  unfold bltOf at h
  repeat' (split at h)
  all_goals first
    | (cases h; done)
    | (rename_i e; subst e; cases h; first
        | exact ⟨len_ok, by decide +kernel, .inl ⟨_, rfl⟩⟩
        | exact ⟨int_ok, by decide +kernel, .inr ⟨_, rfl⟩⟩
        | exact ⟨ord_ok, by decide +kernel, .inl ⟨_, rfl⟩⟩
        | exact ⟨tuple_ok, by decide +kernel, .inr ⟨_, rfl⟩⟩
        | exact ⟨list_ok, by decide +kernel, .inr ⟨_, rfl⟩⟩
        | exact ⟨all_ok hc, by decide +kernel, .inl ⟨_, rfl⟩⟩
        | exact ⟨any_ok hc, by decide +kernel, .inl ⟨_, rfl⟩⟩)
theorem asked_boot : (asked.all fun t => bootBuiltins (Str.ofString t) == some (.type t)) = true := by decide +kernel
theorem isi_ok (M : Mt X C W k) {r : Expr → Option EF} (hr : ∀ e f, r e = some f → SE X W e f) {es : List Expr} {F : EF} {p pos : Pos} (hg : Gl X "isinstance") (hm : X.mg "isinstance" = none) (h : cIsi r C es = some F) : SE X W (.Call (.Name "isinstance" p) es [] pos) F := by
  unfold cIsi at h
  split at h
  · rename_i a T p2
    split at h
    · rename_i t ht
      split at h
      · rename_i hc
        have c1 := Bool.and_eq_true_iff.mp hc
        have c2 := Bool.and_eq_true_iff.mp c1.1
        have c3 := Bool.and_eq_true_iff.mp c2.1
        obtain ⟨n1, n2, n3⟩ := plain_nm c2.2
        have e1 : (Str.ofString t == T) = true := List.find?_some (p := fun t => Str.ofString t == T) ht
        have e2 := eq_of_beq e1
        have hin : t ∈ asked := List.mem_of_find?_eq_some ht
        subst e2
        cases ha : r a with
        | none => rw [ha] at h; cases h
        | some f =>
          rw [ha] at h; cases h
          exact se_isi hg hm (gl_of M c3.1) (M.mdl.blt _ c3.2) (eq_of_beq (List.all_eq_true.mp asked_boot t hin)) hin n3 n1 c1.2 (hr _ _ ha)
      · cases h
    · cases h
  · cases h
theorem call_ok (M : Mt X C W k) {r : Expr → Option EF} (hr : ∀ e f, r e = some f → SE X W e f) {x : Str} {es : List Expr} {F : EF} {p pos : Pos} (h : cCall r C x es = some F) : SE X W (.Call (.Name x p) es [] pos) F := by
  unfold cCall at h
  split at h
  · rename_i hc
    have c1 := Bool.and_eq_true_iff.mp hc
    have c2 := Bool.and_eq_true_iff.mp c1.1
    have c3 := Bool.and_eq_true_iff.mp c2.1
    obtain ⟨n1, n2, n3⟩ := plain_nm c3.2
    have hg := gl_of M c3.1
    cases es with
    | nil => exact absurd c1.2 (by simp)
    | cons e es =>
      split at h
      · rename_i n G hf
        cases hm : mapO r (e :: es) with
        | none => rw [hm] at h; cases h
        | some fs =>
          rw [hm] at h; cases h
          exact se_call M hf hg n1 c2.2 (sa_of (mapO_pair hr hm) c2.2)
      · split at h
        · rename_i n G hf
          cases hm : mapO r (e :: es) with
          | none => rw [hm] at h; cases h
          | some fs =>
            rw [hm] at h; cases h
            exact se_make M hf hg n1 c2.2 (sa_of (mapO_pair hr hm) c2.2)
        split at h
        · rename_i hb
          have hmg := M.mdl.blt x hb
          split at h
          · rename_i hx
            subst hx
            exact isi_ok M hr hg hmg h
          · split at h
            · rename_i v g hbl
              obtain ⟨k1, k2, k3⟩ := blt_ok M.calm hbl
              cases hm : mapO r (e :: es) with
              | none => rw [hm] at h; cases h
              | some fs =>
                rw [hm] at h; cases h
                have sa := sa_of (mapO_pair hr hm) c2.2
                rcases k3 with ⟨id, rfl⟩ | ⟨T, rfl⟩
                · exact se_callB k1 hg hmg k2 n3 n1 c2.2 sa
                · exact se_callTy k1 hg hmg k2 n3 n1 c2.2 sa
            · cases h
        · cases h
  · cases h
theorem pair_len {α β : Type} {R : α → β → Prop} : ∀ {xs : List α} {ys : List β}, Paired R xs ys → xs.length = ys.length
  | [], [], .nil => rfl
  | x :: xs, y :: ys, .cons _ t => by rw [List.length_cons, List.length_cons, pair_len t]
theorem methO_ok (M : Mt X C W k) {r : Expr → Option EF} (hr : ∀ e f, r e = some f → SE X W e f) {o : Expr} {m : Str} {es : List Expr} {F : EF} {apos cpos : Pos} (h : cMethO r C o m es apos cpos = some F) : SE X W (.Call (.Attribute o m apos) es [] cpos) F := by
  unfold cMethO at h
  split at h
  · rename_i hc
    have c2 := Bool.and_eq_true_iff.mp hc
    have c3 := Bool.and_eq_true_iff.mp c2.1
    have c4 := Bool.and_eq_true_iff.mp c3.1
    split at h
    · rename_i f fs h1 h2
      cases h
      have pr := mapO_pair hr h2
      exact se_callM M (hr _ _ h1) (sa_of pr c4.2) (pair_len pr) c4.1 c4.2 c3.2 c2.2
    · cases h
  · cases h
theorem kdOf_ok (M : Mt X C W k) {e : Expr} {tb : List (List Nat × D)} (h : kdOf C e = some tb) : ∃ T p, e = .Name T p ∧ KdOk X.K X.w X.mg T tb ∧ Gl X T ∧ (T == ("__debug__" : Str)) = false := by
  unfold kdOf at h
  split at h
  · rename_i T p
    split at h
    · rename_i hc
      have c := Bool.and_eq_true_iff.mp hc
      exact ⟨T, p, rfl, M.mdl.kds T tb h, gl_of M c.1, (plain_nm c.2).1⟩
    · cases h
  · cases h
theorem cmp_ok' (hu : X.A.units + 64 < cLine) {op : CmpOp} {g : D → D → MH → Res D} (h : cmpD' op = some g) : OpR X (compareOp op) (rS2 X g) := by
  cases op <;> first
    | (cases h; exact op_inD hu)
    | (cases h; exact op_ninD hu)
    | exact cmp_ok hu h
theorem cmpD_calm {op : CmpOp} {g : D → D → MH → Res D} (h : cmpD op = some g) : ∀ d e I x I', g d e I ≠ .err x I' := by
  intro d e I x I' z
  cases op <;> cases h <;> first
    | (unfold eqD at z; split at z <;> cases z; done)
    | (unfold neD at z; split at z <;> cases z; done)
    | (unfold ltS at z; split at z <;> cases z; done)
    | (unfold leS at z; split at z <;> cases z; done)
    | (unfold cmpI at z; split at z <;> cases z; done)
    | (unfold isB at z; split at z <;> first | (cases z; done) | (split at z <;> cases z; done))
    | (unfold inB at z; split at z <;> first | (cases z; done) | (split at z <;> first | (cases z; done) | (split at z <;> cases z; done)))
theorem inDD_calm {neg : Bool} : ∀ d e I x I', inDD neg d e I ≠ .err x I' := by
  intro d e I x I' z
  unfold inDD at z
  split at z
  · split at z <;> cases z
  · cases neg
    · exact cmpD_calm (op := .In) rfl _ _ _ _ _ z
    · exact cmpD_calm (op := .NotIn) rfl _ _ _ _ _ z
theorem cmp_calm' {op : CmpOp} {g : D → D → MH → Res D} (h : cmpD' op = some g) : ∀ d e I x I', g d e I ≠ .err x I' := by
  cases op with
  | In => cases h; exact inDD_calm
  | NotIn => cases h; exact inDD_calm
  | Eq => exact cmpD_calm (op := .Eq) h
  | NotEq => exact cmpD_calm (op := .NotEq) h
  | Lt => exact cmpD_calm (op := .Lt) h
  | LtE => exact cmpD_calm (op := .LtE) h
  | Gt => exact cmpD_calm (op := .Gt) h
  | GtE => exact cmpD_calm (op := .GtE) h
  | Is => exact cmpD_calm (op := .Is) h
  | IsNot => exact cmpD_calm (op := .IsNot) h
theorem ixDD_calm : ∀ d e I x I', ixDD d e I ≠ .err x I' := by
  intro d e I x I' z
  unfold ixDD at z
  split at z
  · split at z
    · unfold optR at z; split at z <;> cases z
    · cases z
  · exact ix_calm _ _ _ _ _ z
theorem se_ixD (hu : X.A.units + 64 < cLine) {a b : Expr} {f h : EF} {pos : Pos} (hs : notSlice b = true) (ha : SE X W a f) (hb : SE X W b h) : SE X W (.Subscript a b pos) (bin2 ixDD f h) := by
  refine pe_weak (pe_ix (ix_okD hu) ha hb (plainIx hs)) fun σ H Q ⟨μ, ρ, I, rr, ok, p⟩ => ?_
  refine then_E rr ok p fun μ1 I1 H1 d v e1 rr1 ok1 rd p1 => ?_
  refine then_E rr1 ok1 p1 fun μ2 I2 H2 e u e2 rr2 ok2 re p2 => ?_
  exact use2 (σ := σ) ixDD_calm ok2 (RepV.ext e2 ok1 _ _ rd) re p2
theorem ccmp_ok (M : Mt X C W k) (hu : X.A.units + 64 < cLine) {r : Expr → Option EF} (hr : ∀ e f, r e = some f → SE X W e f) {a b : Expr} {op : CmpOp} {F : EF} {pos : Pos} (h : cCmp r C a op b = some F) : SE X W (.Compare a [op] [b] pos) F := by
  unfold cCmp at h
  split at h
  · rename_i tb hk
    split at hk
    · rename_i hop
      subst hop
      obtain ⟨T, p, rfl, h1, h2, h3⟩ := kdOf_ok M hk
      cases ha : r a with
      | none => rw [ha] at h; cases h
      | some f => rw [ha] at h; cases h; exact se_kdIn h1 h2 h3 (hr _ _ ha)
    · cases hk
  · split at h
    · rename_i hs
      split at h
      · rename_i h1 h2 h3; cases h; exact se_cmp (cmp_calm' h3) (cmp_ok' hu h3) hs (hr _ _ h1) (hr _ _ h2)
      · cases h
    · cases h
theorem ccmp_okT (M : Mt X C W k) (hu : X.A.units + 64 < cLine) {r : Expr → Option EF} (hr : ∀ e f, r e = some f → SE X W e f) {a b : Expr} {op : CmpOp} {F : EF} {pos : Pos} (h : cCmp r C a op b = some F) : ST X W (.Compare a [op] [b] pos) (boolE F) := by
  unfold cCmp at h
  split at h
  · rename_i tb hk
    split at hk
    · rename_i hop
      subst hop
      obtain ⟨T, p, rfl, h1, h2, h3⟩ := kdOf_ok M hk
      cases ha : r a with
      | none => rw [ha] at h; cases h
      | some f => rw [ha] at h; cases h; exact st_kdIn h1 h2 h3 (hr _ _ ha)
    · cases hk
  · split at h
    · rename_i hs
      split at h
      · rename_i h1 h2 h3; cases h; exact st_cmp (cmp_calm' h3) (cmp_ok' hu h3) hs (hr _ _ h1) (hr _ _ h2)
      · cases h
    · cases h
theorem cix_ok (M : Mt X C W k) (hu : X.A.units + 64 < cLine) {r : Expr → Option EF} (hr : ∀ e f, r e = some f → SE X W e f) {a b : Expr} {F : EF} {pos : Pos} (h : cIx r C a b = some F) : SE X W (.Subscript a b pos) F := by
  unfold cIx at h
  split at h
  · rename_i hs
    split at h
    · rename_i tb hk
      obtain ⟨T, p, rfl, h1, h2, h3⟩ := kdOf_ok M hk
      cases hb : r b with
      | none => rw [hb] at h; cases h
      | some f => rw [hb] at h; cases h; exact se_kdGet h1 h2 h3 hs (hr _ _ hb)
    · split at h
      · rename_i h1 h2; cases h; exact se_ixD hu hs (hr _ _ h1) (hr _ _ h2)
      · cases h
  · cases h
theorem mapO_id : ∀ {keys : List (Option Expr)} {ks : List Expr}, mapO id keys = some ks → keys = ks.map some
  | [], _, h => by cases h; rfl
  | k :: keys, _, h => by
    unfold mapO at h
    split at h
    · rename_i y ys h1 h2
      cases h
      rw [mapO_id h2]
      have : k = some y := h1
      rw [this]
      rfl
    · cases h
theorem prs_of : ∀ {ks vs : List Expr} {fs gs : List EF}, Paired (SE X W) ks fs → Paired (SE X W) vs gs → ks.length = vs.length → ∃ q, PRs X W ks vs (fs.zip gs) q
  | [], [], [], [], .nil, .nil, _ => ⟨[], trivial⟩
  | k :: ks, v :: vs, f :: fs, g :: gs, .cons h1 t1, .cons h2 t2, hl => by
    obtain ⟨q, hq⟩ := prs_of t1 t2 (by simpa using hl)
    exact ⟨(tE X W f, tE X W g) :: q, h1, h2, rfl, rfl, hq⟩
theorem cdict_ok {r : Expr → Option EF} (hr : ∀ e f, r e = some f → SE X W e f) {keys : List (Option Expr)} {vals : List Expr} {F : EF} {pos : Pos} (h : cDict r keys vals = some F) : SE X W (.Dict keys vals pos) F := by
  unfold cDict at h
  split at h
  · cases h; exact se_dict0
  · split at h
    · rename_i ks hk
      split at h
      · rename_i hc
        have c1 := Bool.and_eq_true_iff.mp hc
        have c2 := Bool.and_eq_true_iff.mp c1.1
        split at h
        · rename_i fs gs h1 h2
          cases h
          rw [mapO_id hk]
          have hl : ks.length = _ := of_decide_eq_true c2.1
          obtain ⟨q, hq⟩ := prs_of (mapO_pair hr h1) (mapO_pair hr h2) hl
          exact se_dict hq hl (fun z => by rw [z] at c2; exact absurd c2.2 (by simp)) (of_decide_eq_true c1.2)
        · cases h
      · cases h
    · cases h
theorem meth_ok {r : Expr → Option EF} (hr : ∀ e f, r e = some f → SE X W e f) {o : Expr} {m : Str} {es : List Expr} {F : EF} {apos cpos : Pos} (h : cMeth r o m es apos cpos = some F) : SE X W (.Call (.Attribute o m apos) es [] cpos) F := by
  unfold cMeth at h
  split at h
  · rename_i hc
    have c1 := Bool.and_eq_true_iff.mp hc
    have c2 := Bool.and_eq_true_iff.mp c1.1
    have c3 := Bool.and_eq_true_iff.mp c2.1
    have c4 := Bool.and_eq_true_iff.mp c3.1
    cases es with
    | nil => exact absurd c1.2 (by simp)
    | cons e es =>
      split at h
      · rename_i p g hmt
        split at h
        · rename_i f fs h1 h2
          cases h
          have sa := sa_of (mapO_pair hr h2) c4.2
          unfold mtOf at hmt
          repeat' (split at hmt)
          all_goals first
            | (cases hmt; done)
            | (rename_i e; subst e; cases hmt; first
                | exact se_mt PySem.F.plainAttrs_str PySem.F.slot_str_find PySem.F.type_str_find find_ok (fun _ _ _ _ _ a b c => ty_str a b c) (hr _ _ h1) sa c4.1 c4.2 c3.2 c2.2
                | exact se_mt PySem.F.plainAttrs_str PySem.F.slot_str_endswith PySem.F.type_str_endswith endswith_ok (fun _ _ _ _ _ a b c => ty_str a b c) (hr _ _ h1) sa c4.1 c4.2 c3.2 c2.2
                | exact se_mt PySem.F.plainAttrs_str PySem.F.slot_str_startswith PySem.F.type_str_startswith startswith_ok (fun _ _ _ _ _ a b c => ty_str a b c) (hr _ _ h1) sa c4.1 c4.2 c3.2 c2.2
                | exact se_mt PySem.F.plainAttrs_str PySem.F.slot_str_join PySem.F.type_str_join join_ok (fun _ _ _ _ _ a b c => ty_str a b c) (hr _ _ h1) sa c4.1 c4.2 c3.2 c2.2
                | exact se_mt PySem.F.plainAttrs_list PySem.F.slot_list_append PySem.F.type_list_append append_ok (fun _ _ _ _ _ a b c => ty_lst a b c) (hr _ _ h1) sa c4.1 c4.2 c3.2 c2.2
                | exact se_mt PySem.F.plainAttrs_list PySem.F.slot_list_extend PySem.F.type_list_extend extend_ok (fun _ _ _ _ _ a b c => ty_lst a b c) (hr _ _ h1) sa c4.1 c4.2 c3.2 c2.2)
        · cases h
      · cases h
  · cases h
theorem part_ok {r : Expr → Option EF} (hr : ∀ e f, r e = some f → SE X W e f) {o : Option Expr} {f : Option EF} (h : cPart r o = some f) : SO X W o f := by
  cases o with
  | none => cases h; exact so_none
  | some e =>
    unfold cPart at h
    dsimp only at h
    cases he : r e with
    | none => rw [he] at h; cases h
    | some g => rw [he] at h; cases h; exact so_some (hr _ _ he)
theorem cIt_ok (M : Mt X C W k) {r : Expr → Option EF} (hr : ∀ e f, r e = some f → SE X W e f) {tg e : Expr} {f : IF} (h : cIt r C e = some f) : SI X W tg e f ∧ notSet e = true := by
  have gen : ∀ e f, (r e).map seqI = some f → SI X W tg e f := fun e f h => by
    cases he : r e with
    | none => rw [he] at h; cases h
    | some g => rw [he] at h; cases h; exact si_seq (hr _ _ he)
  unfold cIt at h
  split at h
  · rename_i hs
    refine ⟨?_, hs⟩
    split at h
    · split at h
      · rename_i x p a q hx
        subst hx
        split at h
        · rename_i hc
          have c1 := Bool.and_eq_true_iff.mp hc
          have c2 := Bool.and_eq_true_iff.mp c1.1
          cases ha : r a with
          | none => rw [ha] at h; cases h
          | some g => rw [ha] at h; cases h; exact si_range1 (gl_of M c2.1) (M.mdl.blt _ c2.2) c1.2 (hr _ _ ha)
        · cases h
      · exact gen _ _ h
    · split at h
      · rename_i x p a b q hx
        subst hx
        split at h
        · rename_i hc
          have c0 := Bool.and_eq_true_iff.mp hc
          have c1 := Bool.and_eq_true_iff.mp c0.1
          have c2 := Bool.and_eq_true_iff.mp c1.1
          split at h
          · rename_i f1 g1 ha hb
            cases h
            exact si_range2 (gl_of M c2.1) (M.mdl.blt _ c2.2) c1.2 c0.2 (hr _ _ ha) (hr _ _ hb)
          · cases h
        · cases h
      · exact gen _ _ h
    · exact gen _ _ h
  · cases h
end
theorem bin_calm {op : Operator} {g : D → D → MH → Res D} (h : binD' op = some g) : ∀ d e I x I', g d e I ≠ .err x I' := by
  intro d e I x I' z
  cases op <;> first
    | (cases h; unfold addD at z; repeat' (split at z)); all_goals cases z
    | (cases h; unfold subD at z; repeat' (split at z)); all_goals cases z
    | (cases h; unfold mulSD mulD at z; repeat' (split at z)); all_goals cases z
    | (cases h; unfold fdivD at z; repeat' (split at z)); all_goals cases z
    | (cases h; unfold modD at z; repeat' (split at z)); all_goals cases z
    | (cases h; unfold powD at z; repeat' (split at z)); all_goals cases z
    | (cases h; unfold shlD at z; repeat' (split at z)); all_goals cases z
    | cases h
theorem cmp_calm {op : CmpOp} {g : D → D → MH → Res D} (h : cmpD op = some g) : ∀ d e I x I', g d e I ≠ .err x I' := by
  intro d e I x I' z
  cases op <;> (cases h; first
    | (unfold eqD at z; repeat' (split at z)); all_goals cases z
    | (unfold neD at z; repeat' (split at z)); all_goals cases z
    | (unfold ltS at z; repeat' (split at z)); all_goals cases z
    | (unfold leS at z; repeat' (split at z)); all_goals cases z
    | (unfold cmpI at z; repeat' (split at z)); all_goals cases z
    | (unfold isB at z; repeat' (split at z)); all_goals cases z
    | (unfold inB at z; repeat' (split at z)); all_goals cases z)

/-! comprehensions -/
section
variable {X : Cx} {C : CC} {W : WX} {k : Nat}
theorem blk_mt (M : Mt X C W k) {scope : Scope} (s : Shared) (H : Hp) (Cl : Addr) (cl : List (Str × Addr)) (fp : List Addr) : Mt (X.blk s H scope (compEnvC scope cl Cl X.env) fp) (blkCC C scope) (fun _ _ _ _ => False) k where
  sc := by
    show relS scope X.env.scope = relS scope C.sc
    rw [M.sc]
  N := M.N
  nd := M.nd
  calm := M.calm
  room := M.room
  tk := fun _ _ ⟨_, _, _, _, _, _, _, _, _, _, _, _, _, _, _, _, w⟩ => w.elim
  isDef := fun h => by cases h
  mdl := ⟨M.mdl.fns, M.mdl.cst, M.mdl.blt, M.mdl.cls, M.mdl.mth, M.mdl.mks, M.mdl.kds⟩
  tab := fun q h => by cases h
theorem own_ix {tg : Expr} {own : List (Str × Nat)} (h : ownOf C tg = some own) : ∃ xs, tgNames tg = some xs ∧ Paired (fun x (p : Str × Nat) => p.1 = x ∧ idx x C.N = some p.2) xs own := by
  unfold ownOf at h
  cases hx : tgNames tg with
  | none => rw [hx] at h; cases h
  | some xs =>
    rw [hx] at h
    refine ⟨xs, rfl, mapO_pair (f := fun x => (idx x C.N).map fun i => (x, i)) (fun x p hp => ?_) h⟩
    cases hi : idx x C.N with
    | none => rw [hi] at hp; cases hp
    | some i => rw [hi] at hp; cases hp; exact ⟨rfl, rfl⟩
theorem names_form : ∀ {es : List Expr} {xs : List Str}, mapO isName es = some xs → Paired (fun e x => ∃ p, e = Expr.Name x p) es xs := fun h => mapO_pair (f := isName) (fun e x he => by
  cases e <;> first | (cases he; exact ⟨_, rfl⟩) | cases he) h
theorem blk_targets {X' : Cx} (hN : X'.N = C.N) (hnd : C.N.Nodup) (hc : X'.calm = true) : ∀ {es : List Expr} {xs : List Str} {own : List (Str × Nat)}, Paired (fun e x => ∃ p, e = Expr.Name x p) es xs → Paired (fun x (p : Str × Nat) => p.1 = x ∧ idx x C.N = some p.2) xs own →
    (own.all fun p => X'.env.scope.names.lookup p.1 == some .local) = true → PGs X' es (gNames (own.map (·.2))) ∧ (assignEach es X'.env).length = own.length ∧ (assignEach es X'.env).findIdx? (·.1) = none
  | [], [], [], .nil, .nil, _ => ⟨pgs_nil, rfl, rfl⟩
  | e :: es, x :: xs, p :: own, .cons h1 t1, .cons h2 t2, h => by
    obtain ⟨pp, rfl⟩ := h1
    obtain ⟨rfl, hi⟩ := h2
    rw [List.all_cons] at h
    have h' := Bool.and_eq_true_iff.mp h
    have hl := eq_of_beq h'.1
    obtain ⟨q1, q2, q3⟩ := blk_targets hN hnd hc t1 t2 h'.2
    refine ⟨pgs_cons (pg_name (by rw [hN]; exact hnd) (by rw [hN]; exact idx_get hi) (.inl hl) (.inr hl)) q1, ?_, ?_⟩
    · show (assignEach es X'.env).length + 1 = own.length + 1
      rw [q2]
    · show List.findIdx? (·.1) ((false, assign (.Name p.1 pp) X'.env) :: assignEach es X'.env) = none
      rw [List.findIdx?_cons, q3]
      rfl
/-- what a comprehension's parts are good for -/
structure CompOk (X : Cx) (W : WX) (elt : Expr) (gens : List Comprehension) (scope : Scope) (p : CompParts) : Prop where
  ex : ∃ tg iter ifs g, gens = [⟨tg, iter, ifs, 0⟩] ∧ SI X W tg iter p.it ∧ BlkOk X.N X.env.scope scope p.own ∧ GOK X g p.t (p.own.map (·.2)) ∧
    (∀ (s : Shared) (H : Hp) (C : Addr) (cl : List (Str × Addr)) (fp : List Addr), PG (X.blk s H scope (compEnvC scope cl C X.env) fp) tg g) ∧
    (∀ (s : Shared) (H : Hp) (C : Addr) (cl : List (Str × Addr)) (fp : List Addr), PTs (X.blk s H scope (compEnvC scope cl C X.env) fp) ifs (tT X (fun _ _ _ _ => False) p.ttf)) ∧
    (∀ (s : Shared) (H : Hp) (C : Addr) (cl : List (Str × Addr)) (fp : List Addr), PE (X.blk s H scope (compEnvC scope cl C X.env) fp) elt (tE X (fun _ _ _ _ => False) p.te)) ∧ notSet iter = true
theorem comp_ok (M : Mt X C W k) {r : CC → Expr → Option EF} {rt : CC → Expr → Option TF} (hr : ∀ X C W k, Mt X C W k → ∀ e f, r C e = some f → SE X W e f) (hrt : ∀ X C W k, Mt X C W k → ∀ e f, rt C e = some f → ST X W e f)
    {elt : Expr} {gens : List Comprehension} {scope : Scope} {p : CompParts} (h : cComp r rt C elt gens scope = some p) : CompOk X W elt gens scope p := by
  unfold cComp at h
  split at h
  · rename_i tg iter ifs asy
    split at h
    · rename_i hc
      have c1 := Bool.and_eq_true_iff.mp hc
      have ea : asy = 0 := of_decide_eq_true c1.1
      subst ea
      split at h
      · rename_i own ho
        split at h
        · rename_i hc2
          have c2 := Bool.and_eq_true_iff.mp hc2
          split at h
          · rename_i it te hit hte
            have okb : BlkOk X.N X.env.scope scope own := by rw [M.N, M.sc]; exact blkOk_by c2.1
            have si := (cIt_ok M (hr X C W k M) (tg := tg) hit).1
            obtain ⟨xs, hx, hp⟩ := own_ix ho
            have loc : ∀ (s : Shared) (H : Hp) (Cl : Addr) (cl : List (Str × Addr)) (fp : List Addr), (own.all fun p => (X.blk s H scope (compEnvC scope cl Cl X.env) fp).env.scope.names.lookup p.1 == some .local) = true := fun s H Cl cl fp => by
              have e : (X.blk s H scope (compEnvC scope cl Cl X.env) fp).env.scope = relS scope C.sc := (blk_mt M s H Cl cl fp).sc
              rw [e]
              exact c2.2
            have elt_ok : ∀ (s : Shared) (H : Hp) (Cl : Addr) (cl : List (Str × Addr)) (fp : List Addr), PE (X.blk s H scope (compEnvC scope cl Cl X.env) fp) elt (tE X (fun _ _ _ _ => False) te) := fun s H Cl cl fp => hr _ _ _ _ (blk_mt M s H Cl cl fp) _ _ hte
            -- the target
            have tgt : ∃ g, GOK X g (tgT tg (own.map (·.2))) (own.map (·.2)) ∧ ∀ (s : Shared) (H : Hp) (Cl : Addr) (cl : List (Str × Addr)) (fp : List Addr), PG (X.blk s H scope (compEnvC scope cl Cl X.env) fp) tg g := by
              unfold tgNames at hx
              split at hx
              · rename_i x pp
                cases hx
                cases hp with
                | cons h1 t1 =>
                  cases t1
                  rename_i q
                  obtain ⟨rfl, hi⟩ := h1
                  refine ⟨gName q.2, gok_name (by simp), fun s H Cl cl fp => ?_⟩
                  have l := loc s H Cl cl fp
                  rw [List.all_cons] at l
                  have l' := eq_of_beq (Bool.and_eq_true_iff.mp l).1
                  exact pg_name (by show X.N.Nodup; rw [M.N]; exact M.nd) (by show X.N[q.2]? = _; rw [M.N]; exact idx_get hi) (.inl l') (.inr l')
              · rename_i es nn pp
                refine ⟨gTup X.K (own.map (·.2)).length (gNames (own.map (·.2))), gok_tup fun i hi => hi, fun s H Cl cl fp => ?_⟩
                obtain ⟨q1, q2, q3⟩ := blk_targets (C := C) (X' := X.blk s H scope (compEnvC scope cl Cl X.env) fp) M.N M.nd M.calm (names_form hx) hp (loc s H Cl cl fp)
                exact pg_tup (X := X.blk s H scope (compEnvC scope cl Cl X.env) fp) M.calm q1 (by rw [q2, List.length_map]) q3
              · cases hx
            obtain ⟨g, hgo, hg⟩ := tgt
            split at h
            · cases h
              exact ⟨tg, iter, [], g, rfl, si, okb, hgo, hg, fun s H Cl cl fp => ⟨fun pins s' σ H' Q I q => pts_nil.run pins s' σ H' Q I (by
                obtain ⟨μ, ρ, I', rr, ok, p⟩ := q
                exact p μ H' Ext.refl ok)⟩, elt_ok, c1.2⟩
            · rename_i c
              cases hcc : rt (blkCC C scope) c with
              | none => rw [hcc] at h; cases h
              | some ttf =>
                rw [hcc] at h; cases h
                exact ⟨tg, iter, [c], g, rfl, si, okb, hgo, hg, fun s H Cl cl fp => pts_one (hrt _ _ _ _ (blk_mt M s H Cl cl fp) _ _ hcc), elt_ok, c1.2⟩
            · cases h
          · cases h
        · cases h
      · cases h
    · cases h
  · cases h
end
/-! generators -/
section
variable {X : Cx} {C : CC} {W : WX} {k : Nat}
theorem gen_mt (M : Mt X C W k) {scope : Scope} (s : Shared) (H : Hp) (env : Env) (A : Around) (fp : List Addr) (pn : List (Addr × Obj)) (hs : env.scope = scope) (hr : Room k A) : Mt (MG.gen X s H env A fp pn) (genCC C scope) (fun _ _ _ _ => False) k where
  sc := hs
  N := M.N
  nd := M.nd
  calm := M.calm
  room := hr
  tk := fun _ _ ⟨_, _, _, _, _, _, _, _, _, _, _, _, _, _, _, _, w⟩ => w.elim
  isDef := fun h => by cases h
  mdl := ⟨M.mdl.fns, M.mdl.cst, M.mdl.blt, M.mdl.cls, M.mdl.mth, M.mdl.mks, M.mdl.kds⟩
  tab := fun q h => by cases h
theorem plain_fold {e : Expr} {env : Env} (h : plainIter e = true) (v : Value) : genFold e env v = pure v := by
  cases e <;> first | rfl | cases h
theorem cgen_ok (M : Mt X C W k) {r : CC → Expr → Option EF} (hr : ∀ X C W k, Mt X C W k → ∀ e f, r C e = some f → SE X W e f) {x : Str} {p pos gpos : Pos} {elt : Expr} {gens : List Comprehension} {scope : Scope} {F : EF} (h : cGen r C x elt gens scope = some F) :
    SE X W (.Call (.Name x p) [.GeneratorExp elt gens scope gpos] [] pos) F := by
  unfold cGen at h
  split at h
  · rename_i q tg iter asy hq
    split at h
    · rename_i hc
      have c1 := Bool.and_eq_true_iff.mp hc
      have c2 := Bool.and_eq_true_iff.mp c1.1
      have c3 := Bool.and_eq_true_iff.mp c2.1
      have c4 := Bool.and_eq_true_iff.mp c3.1
      have c5 := Bool.and_eq_true_iff.mp c4.1
      have ea : asy = 0 := of_decide_eq_true c3.2
      subst ea
      have hg := gl_of M c5.2
      have hm := M.mdl.blt _ c4.2
      split at h
      · rename_i own ho
        split at h
        · rename_i hgo'
          have d1 := Bool.and_eq_true_iff.mp hgo'
          have d2 := Bool.and_eq_true_iff.mp d1.1
          have d3 := Bool.and_eq_true_iff.mp d2.1
          have d4 := Bool.and_eq_true_iff.mp d3.1
          have hco : scope.isCoroutine = false := by simpa using d4.1
          have nocell : ∀ y ∈ scope.names, y.2 ≠ .cell := fun y hy => of_decide_eq_true (List.all_eq_true.mp d4.2 y hy)
          have dot : scope.names.lookup (".0" : Str) = some NameKind.local := eq_of_beq d3.2
          split at h
          · rename_i it te hit hte
            cases h
            have okb : BlkOk X.N X.env.scope scope own := by rw [M.N, M.sc]; exact blkOk_by d2.2
            have si := (cIt_ok M (hr X C W k M) (tg := tg) hit).1
            obtain ⟨xs, hx, hp⟩ := own_ix ho
            have loc : ∀ (s : Shared) (H : Hp) (env : Env) (A : Around) (fp : List Addr) (pn : List (Addr × Obj)), env.scope = scope → (own.all fun p => (MG.gen X s H env A fp pn).env.scope.names.lookup p.1 == some .local) = true := fun s H env A fp pn hs => by
              show (own.all fun p => env.scope.names.lookup p.1 == some .local) = true
              rw [hs]
              exact d1.2
            have tgt : ∃ g, GOK X g (tgT tg (own.map (·.2))) (own.map (·.2)) ∧ ∀ (s : Shared) (H : Hp) (env : Env) (A : Around) (fp : List Addr) (pn : List (Addr × Obj)), env.scope = scope → PG (MG.gen X s H env A fp pn) tg g := by
              unfold tgNames at hx
              split at hx
              · rename_i x pp
                cases hx
                cases hp with
                | cons h1 t1 =>
                  cases t1
                  rename_i q
                  obtain ⟨rfl, hi⟩ := h1
                  refine ⟨gName q.2, gok_name (by simp), fun s H env A fp pn hs => ?_⟩
                  have l := loc s H env A fp pn hs
                  rw [List.all_cons] at l
                  have l' := eq_of_beq (Bool.and_eq_true_iff.mp l).1
                  exact pg_name (by show X.N.Nodup; rw [M.N]; exact M.nd) (by show X.N[q.2]? = _; rw [M.N]; exact idx_get hi) (.inl l') (.inr l')
              · rename_i es nn pp
                refine ⟨gTup X.K (own.map (·.2)).length (gNames (own.map (·.2))), gok_tup fun i hi => hi, fun s H env A fp pn hs => ?_⟩
                obtain ⟨q1, q2, q3⟩ := blk_targets (C := C) (X' := MG.gen X s H env A fp pn) M.N M.nd M.calm (names_form hx) hp (loc s H env A fp pn hs)
                exact pg_tup (X := MG.gen X s H env A fp pn) M.calm q1 (by rw [q2, List.length_map]) q3
              · cases hx
            obtain ⟨g, hgo, hpg⟩ := tgt
            obtain ⟨hr1, c, P, hcode, TB, hT⟩ := M.tab q hq
            have hpe : ∀ (s : Shared) (H : Hp) (env : Env) (A : Around) (fp : List Addr) (pn : List (Addr × Obj)), env.scope = scope → Room k A → PE (MG.gen X s H env A fp pn) elt (tE X (fun _ _ _ _ => False) te) := fun s H env A fp pn hs hrm => hr _ _ _ _ (gen_mt M s H env A fp pn hs hrm) _ _ hte
            have hxx := Bool.or_eq_true_iff.mp c5.1
            by_cases hall : x = "all"
            · subst hall
              exact pe_weak (MG.pe_genAll hg hm (by decide +kernel) hr1 M.calm TB hcode hco nocell dot okb (by rw [M.N]; exact M.nd) si (plain_fold c1.2) hpg hpe) fun σ H Q z => gen_read hT hgo σ H Q z
            · have hany : x = "any" := by
                rcases hxx with z | z
                · exact absurd (eq_of_beq z) hall
                · exact eq_of_beq z
              subst hany
              exact pe_weak (MG.pe_genAny hg hm (by decide +kernel) hr1 M.calm TB hcode hco nocell dot okb (by rw [M.N]; exact M.nd) si (plain_fold c1.2) hpg hpe) fun σ H Q z => gen_read hT hgo σ H Q z
          · cases h
        · cases h
      · cases h
    · cases h
  · cases h
end
/-- THE READING IS RIGHT -/
theorem cET_ok : ∀ n : Nat, (∀ X C W k, Mt X C W k → ∀ e f, cE n C e = some f → SE X W e f) ∧ (∀ X C W k, Mt X C W k → ∀ e f, cT n C e = some f → ST X W e f)
  | 0 => ⟨fun X C W k M e f h => (by unfold cE at h; cases h), fun X C W k M e f h => (by unfold cT at h; cases h)⟩
  | n + 1 => by
    obtain ⟨ihE, ihT⟩ := cET_ok n
    refine ⟨fun X C W k M e f h => ?_, fun X C W k M e f h => ?_⟩
    · have hr := ihE X C W k M
      have ht := ihT X C W k M
      have hu : X.A.units + 64 < cLine := M.room.units
      unfold cE at h
      split at h
      · exact name_ok M h
      · exact const_ok h
      · split at h
        · rename_i h1 h2 h3; cases h; exact se_bin (bin_calm h3) (bin_ok' h3) (hr _ _ h1) (hr _ _ h2)
        · cases h
      · rename_i a p
        cases he : cE n C a with
        | none => rw [he] at h; cases h
        | some g => rw [he] at h; cases h; exact se_not (hr _ _ he)
      · rename_i a p
        cases he : cE n C a with
        | none => rw [he] at h; cases h
        | some g => rw [he] at h; cases h; exact se_neg (hr _ _ he)
      · rename_i op vs p
        cases hm : mapO (cE n C) vs with
        | none => rw [hm] at h; cases h
        | some fs => rw [hm] at h; exact foldE_ok (mapO_pair hr hm) h
      · exact ccmp_ok M hu hr h
      · split at h
        · rename_i hs
          split at h
          · rename_i h1 h2 h3 h4 h5; cases h; exact se_chain (cmp_calm h4) (cmp_calm h5) (cmp_ok hu h4) (cmp_ok hu h5) hs (hr _ _ h1) (hr _ _ h2) (hr _ _ h3)
          · cases h
        · cases h
      · split at h
        · rename_i h1 h2 h3; cases h; exact se_if (ht _ _ h1) (hr _ _ h2) (hr _ _ h3)
        · cases h
      · split at h
        · rename_i es j p hs
          cases hm : mapO (cE n C) es with
          | none => rw [hm] at h; cases h
          | some fs => rw [hm] at h; cases h; exact se_tup (sa_of (mapO_pair hr hm) hs)
        · cases h
      · split at h
        · rename_i es p hs
          cases hm : mapO (cE n C) es with
          | none => rw [hm] at h; cases h
          | some fs => rw [hm] at h; cases h; exact se_lst (sa_of (mapO_pair hr hm) hs)
        · cases h
      · split at h
        · rename_i h1 h2 h3; cases h; exact se_slice (hr _ _ h1) (part_ok hr h2) (part_ok hr h3)
        · cases h
      · exact cix_ok M hu hr h
      · split at h
        · rename_i o m p hb
          cases he : cE n C o with
          | none => rw [he] at h; cases h
          | some g => rw [he] at h; cases h; exact se_attr (fun c as z => M.mdl.cls c as z) hb (hr _ _ he)
        · cases h
      · exact cdict_ok hr h
      · exact cgen_ok M ihE h
      · exact call_ok M hr h
      · split at h
        · exact methO_ok M hr h
        · exact meth_ok hr h
      · rename_i elt gens scope p
        cases hc : cComp (cE n) (cT n) C elt gens scope with
        | none => rw [hc] at h; cases h
        | some q =>
          rw [hc] at h; cases h
          obtain ⟨tg, iter, ifs, g, rfl, si, okb, hgo, hg, hts, hel, hs⟩ := (comp_ok M ihE ihT hc).ex
          exact se_lc M.calm (by rw [M.N]; exact M.nd) si okb hgo hg hts hel hs
      · cases h
    · have hr := ihE X C W k M
      have ht := ihT X C W k M
      have hu : X.A.units + 64 < cLine := M.room.units
      unfold cT at h
      split at h
      · rename_i a p
        cases he : cT n C a with
        | none => rw [he] at h; cases h
        | some g => rw [he] at h; cases h; exact st_not (ht _ _ he)
      · rename_i op vs p
        cases hm : mapO (cT n C) vs with
        | none => rw [hm] at h; cases h
        | some fs => rw [hm] at h; exact (foldT_ok (mapO_pair ht hm) h).pt
      · split at h
        · rename_i op b
          cases hc : cCmp (cE n C) C _ op b with
          | none => rw [hc] at h; cases h
          | some F' => rw [hc] at h; cases h; exact ccmp_okT M hu hr hc
        · split at h
          · rename_i hs
            split at h
            · rename_i h1 h2 h3 h4 h5; cases h; exact st_chain (cmp_calm h4) (cmp_calm h5) (cmp_ok hu h4) (cmp_ok hu h5) hs (hr _ _ h1) (hr _ _ h2) (hr _ _ h3)
            · cases h
          · cases h
        · cases h
      · split at h
        · rename_i hp
          cases he : cE n C e with
          | none => rw [he] at h; cases h
          | some g => rw [he] at h; cases h; exact st_tru (hr _ _ he) hp
        · cases h
end MP
/-! MPA: statements and defs: from the written text to its reading by trees -/
namespace MP
open PySem PySem.Spec L2

def raiseS (x : Str) (fld : Option Str) (f : EF) : SF := fun ρ I => (f ρ I).bindS fun d I1 => .err ⟨x, fld.map fun n => (n, d)⟩ I1
/-- raise X(e), X a class of the text -/
def RaiseOk (P : Program) (w : World) (K : PySem.W.Frag) (mg : Str → Option Value) (base : Heap) (k : Nat) (x : Str) (fld : Option Str) : Prop :=
  ∀ (X : Cx) (W : WX) (e : Expr) (f : EF) (p pos pos2 : Pos), X.prog = P → X.w = w → X.K = K → X.mg = mg → X.base = base → Room k X.A → X.calm = true → L2N.Takes X W → Flat W → Gl X x → notStar e = true → SE X W e f →
    SS X W (.Raise (some (.Call (.Name x p) [e] [] pos)) none pos2) (raiseS x fld f)
structure MtS (X : Cx) (C : CC) (W : WX) (k : Nat) : Prop extends Mt X C W k where
  flat : Flat W
  own : PassesOwn (model X.prog X.w) X.A X.env X.xe
  raises : ∀ x fld, C.exs.lookup x = some fld → RaiseOk X.prog X.w X.K X.mg X.base k x fld

def isLocal (C : CC) (x : Str) : Bool := C.sc.names.lookup x == some .local || (C.sc.names.lookup x == some .cell && C.isDef)
def slot (C : CC) (x : Str) : Option Nat := if isLocal C x then idx x C.N else none
def notTup : Expr → Bool
  | .Tuple .. => false
  | _ => true
/-- a comprehension stored at once by the name on its line -/
def swB (C : CC) (x : Str) (py p : Pos) (scope : Scope) : Bool := (C.sc.kind == .function) && (C.sc.names.lookup x == some .local) && (py.line == p.line) && !(scope.names.any fun (n, k) => n == x && (k == .local || k == .cell))
noncomputable def cAsgName (n : Nat) (C : CC) (x : Str) (py : Pos) (e : Expr) : Option SF := match slot C x with
  | some i => (match e with
    | .ListComp elt gens scope p => if swB C x py p scope then (match cComp (cE n) (cT n) C elt gens scope with
        | some q => some (asgS (if C.mts.contains x then lcM q.it (q.own.map (·.2)) q.t q.ttf q.te else lcE q.it (q.own.map (·.2)) q.t q.ttf q.te) (nameT i))
        | none => none) else none
    | .List es p => if C.mts.contains x then (if es.all notStar then (mapO (cE n C) es).map fun fs => asgS (lstM fs) (nameT i) else none) else (cE n C (.List es p)).map fun f => asgS f (nameT i)
    | e => if notComp e then (cE n C e).map fun f => asgS f (nameT i) else none)
  | none => none
mutual
noncomputable def cS : Nat → CC → Stmt → Option SF
  | 0, _, _ => none
  | n + 1, C, st => match st with
    | .Assign [.Name x py] e _ => cAsgName n C x py e
    | .Assign [.Tuple es _ _] e _ => if notTup e && notComp e then (match mapO isName es, cE n C e with
      | some xs, some f => (mapO (slot C) xs).map fun is => asgS f (tupT is)
      | _, _ => none) else none
    | .Assign [.Subscript o i _] e _ => if notSlice i && notComp e then (match cE n C o, cE n C i, cE n C e with
      | some fo, some fi, some f => some (asgS f (subT fo fi))
      | _, _, _ => none) else none
    | .Assign [.Attribute o m _] e _ => if notComp e then (match cE n C o, cE n C e with
      | some fo, some f => some (asgS f (fldT C.cls m fo))
      | _, _ => none) else none
    | .AugAssign (.Attribute o m _) .Add e _ => (match cE n C o, cE n C e with
      | some fo, some f => some (augF C.cls m addJ fo f)
      | _, _ => none)
    | .AugAssign (.Name x _) .Add e _ => if plainNm x then (match slot C x, cE n C e with
      | some i, some f => some (augS i addI f)
      | _, _ => none) else none
    | .Expr e _ => if notComp e then (cE n C e).map exprS else none
    | .Return (some e) _ => (cE n C e).map retS
    | .Return none _ => some fun _ I => .ret .non I
    | .Pass _ => some nxS
    | .Break _ => some fun ρ I => .brk ρ I
    | .Continue _ => some fun ρ I => .cnt ρ I
    | .If c a b _ => match cT n C c, cSs n C a, cSs n C b with
      | some t, some f, some g => some (ifS t f g)
      | _, _, _ => none
    | .While c body [] _ => match cT n C c, cSs n C body with
      | some t, some f => some (whileS t f)
      | _, _ => none
    | .For tg iter body [] _ => (match cIt (cE n C) C iter, cSs n C body with
      | some it, some f => (match tg with
        | .Name x _ => (slot C x).map fun i => forS it (nameT i) f
        | .Tuple es _ _ => ((mapO isName es).bind fun xs => mapO (slot C) xs).map fun is => forS it (tupT is) f
        | _ => none)
      | _, _ => none)
    | .Raise (some (.Call (.Name x _) [e] [] _)) none _ => if isGl C x && notStar e then (match C.exs.lookup x, cE n C e with
      | some fld, some f => some (raiseS x fld f)
      | _, _ => none) else none
    | _ => none
noncomputable def cSs : Nat → CC → List Stmt → Option SF
  | 0, _, _ => none
  | _ + 1, _, [] => some nxS
  | n + 1, C, st :: sts => match cS n C st, cSs n C sts with
    | some f, some g => some (seqS f g)
    | _, _ => none
end

section
variable {X : Cx} {C : CC} {W : WX} {k : Nat}
theorem slot_ok (M : Mt X C W k) {x : Str} {i : Nat} (h : slot C x = some i) : X.N[i]? = some x ∧ Loc X.env.scope x ∧ (X.fn x = true ∨ X.env.scope.names.lookup x = some .local) := by
  unfold slot at h
  split at h
  · rename_i hl
    refine ⟨by rw [M.N]; exact idx_get h, ?_⟩
    unfold isLocal at hl
    rw [M.sc]
    rcases Bool.or_eq_true_iff.mp hl with e | e
    · exact ⟨.inl (eq_of_beq e), .inr (eq_of_beq e)⟩
    · have e' := Bool.and_eq_true_iff.mp e
      exact ⟨.inr (eq_of_beq e'.1), .inl (M.isDef e'.2 x)⟩
  · cases h
theorem ndX (M : Mt X C W k) : X.N.Nodup := by rw [M.N]; exact M.nd
theorem names_ok (M : Mt X C W k) : ∀ {es : List Expr} {xs : List Str} {is : List Nat}, mapO isName es = some xs → mapO (slot C) xs = some is → NamesOk X es is := fun {es xs is} h1 h2 => by
  have p1 := names_form h1
  have p2 := mapO_pair (R := fun x i => slot C x = some i) (fun _ _ z => z) h2
  clear h1 h2
  induction p1 generalizing is with
  | nil => cases p2; exact .nil
  | cons h t ih =>
    cases p2 with
    | cons g t2 =>
      obtain ⟨p, rfl⟩ := h
      obtain ⟨a, b, c⟩ := slot_ok M g
      exact .cons a b c (ih t2)
theorem swaps_lc {elt : Expr} {gs : List Comprehension} {scope : Scope} {p py : Pos} {y : Str} {l : Nat} (M : Mt X C W k) (h : swB C y py p scope = true) : swapsWith (.ListComp elt gs scope p) (some (.Name y py)) l X.env = pure true ∧ X.env.scope.names.lookup y = some .local := by
  unfold swB at h
  have h1 := Bool.and_eq_true_iff.mp h
  have h2 := Bool.and_eq_true_iff.mp h1.1
  have h3 := Bool.and_eq_true_iff.mp h2.1
  have hl : X.env.scope.names.lookup y = some .local := by rw [M.sc]; exact eq_of_beq h3.2
  refine ⟨sw_true (by rw [M.sc]; exact eq_of_beq h3.1) hl h2.2 ?_, hl⟩
  simpa using h1.2
theorem tup_nx {is : List Nat} {d : D} {ρ : En} {I : MH} : (∃ ρ' I', tupT is d ρ I = .nx ρ' I') ∨ (∃ x I', tupT is d ρ I = .err x I') ∨ tupT is d ρ I = .stuck := by
  have key : ∀ (is : List Nat) (ds : List D) (ρ : En), (∃ ρ' I', namesT is ds ρ I = .nx ρ' I') ∨ namesT is ds ρ I = .stuck := by
    intro is
    induction is with
    | nil => intro ds ρ; cases ds with
      | nil => exact .inl ⟨_, _, rfl⟩
      | cons => exact .inr rfl
    | cons i is ih => intro ds ρ; cases ds with
      | nil => exact .inr rfl
      | cons d ds => exact ih ds _
  unfold tupT
  split
  · rcases key is _ ρ with h | h
    · exact .inl h
    · exact .inr (.inr h)
  · exact .inr (.inr rfl)
theorem sub_nx {fo fi : EF} {d : D} {ρ : En} {I : MH} : (∃ ρ' I', subT fo fi d ρ I = .nx ρ' I') ∨ (∃ x I', subT fo fi d ρ I = .err x I') ∨ subT fo fi d ρ I = .stuck := by
  unfold subT
  cases h1 : fo ρ I with
  | ok o I1 =>
    cases h2 : fi ρ I1 with
    | ok i I2 =>
      cases h3 : setIx o i d I2 with
      | ok u I3 => exact .inl ⟨_, _, by unfold Res.bindS; dsimp only; rw [h2]; dsimp only; rw [h3]⟩
      | err x I3 => exact .inr (.inl ⟨_, _, by unfold Res.bindS; dsimp only; rw [h2]; dsimp only; rw [h3]⟩)
      | stuck => exact .inr (.inr (by unfold Res.bindS; dsimp only; rw [h2]; dsimp only; rw [h3]))
    | err x I2 => exact .inr (.inl ⟨_, _, by unfold Res.bindS; dsimp only; rw [h2]⟩)
    | stuck => exact .inr (.inr (by unfold Res.bindS; dsimp only; rw [h2]))
  | err x I1 => exact .inr (.inl ⟨_, _, rfl⟩)
  | stuck => exact .inr (.inr rfl)
theorem asg_name_ok (M : MtS X C W k) {n : Nat} {x : Str} {py pos : Pos} {e : Expr} {F : SF} (h : cAsgName n C x py e = some F) : SS X W (.Assign [.Name x py] e pos) F := by
  have hE := (cET_ok n).1
  have hT := (cET_ok n).2
  have hr := hE X C W k M.toMt
  unfold cAsgName at h
  split at h
  · rename_i i hi
    obtain ⟨h1, h2, h3⟩ := slot_ok M.toMt hi
    split at h
    · rename_i elt gens scope p
      split at h
      · rename_i hsw
        obtain ⟨s1, s2⟩ := swaps_lc (l := pos.line) M.toMt (elt := elt) (gs := gens) hsw
        split at h
        · rename_i q hq
          cases h
          obtain ⟨tg, iter, ifs, g, rfl, si, okb, hgo, hg, hts, hel, hs⟩ := (comp_ok M.toMt hE hT hq).ex
          refine ss_setLc M.flat M.calm (ndX M.toMt) h1 s2 s1 si okb hg hts hel hs ?_
          split
          · exact fun σ H Q z => lc_readM hgo (fun _ _ _ z => z) (fun _ _ _ z => z) σ H Q z
          · exact fun σ H Q z => lc_read hgo (fun _ _ _ z => z) (fun _ _ _ z => z) σ H Q z
        · cases h
      · cases h
    · rename_i es p
      split at h
      · split at h
        · rename_i hs
          cases hm : mapO (cE n C) es with
          | none => rw [hm] at h; cases h
          | some fs => rw [hm] at h; cases h; exact ss_set M.flat (ndX M.toMt) h1 h2 h3 rfl (se_lstM (sa_of (mapO_pair hr hm) hs))
        · cases h
      · cases he : cE n C (.List es p) with
        | none => rw [he] at h; cases h
        | some f => rw [he] at h; cases h; exact ss_set M.flat (ndX M.toMt) h1 h2 h3 rfl (hr _ _ he)
    · split at h
      · rename_i hn
        cases he : cE n C e with
        | none => rw [he] at h; cases h
        | some f => rw [he] at h; cases h; exact ss_set M.flat (ndX M.toMt) h1 h2 h3 hn (hr _ _ he)
      · cases h
  · cases h
theorem swap_none {tg e : Expr} {env : Env} (h : notTup e = true) : swappedStores [tg] e env = pure none := by
  unfold swappedStores
  cases e <;> first
    | (cases h; done)
    | (cases tg <;> rfl)
/-- THE STATEMENTS' READING IS RIGHT -/
theorem cSS_ok : ∀ n : Nat, (∀ X C W k, MtS X C W k → ∀ st f, cS n C st = some f → SS X W st f) ∧ (∀ X C W k, MtS X C W k → ∀ st f, cSs n C st = some f → SSs X W st f)
  | 0 => ⟨fun X C W k M e f h => (by unfold cS at h; cases h), fun X C W k M e f h => (by unfold cSs at h; cases h)⟩
  | n + 1 => by
    obtain ⟨ihS, ihB⟩ := cSS_ok n
    refine ⟨fun X C W k M st F h => ?_, fun X C W k M sts F h => ?_⟩
    · have hr := (cET_ok n).1 X C W k M.toMt
      have ht := (cET_ok n).2 X C W k M.toMt
      have hb := ihB X C W k M
      unfold cS at h
      split at h
      · exact asg_name_ok M h
      · split at h
        · rename_i hc
          have c := Bool.and_eq_true_iff.mp hc
          split at h
          · rename_i xs f hx he
            cases hm : mapO (slot C) xs with
            | none => rw [hm] at h; cases h
            | some is =>
              rw [hm] at h; cases h
              exact ss_asg M.flat c.2 (swap_none c.1) rfl (hr _ _ he) (sg_tup M.calm (ndX M.toMt) (names_ok M.toMt hx hm)) fun d ρ I => tup_nx
          · cases h
        · cases h
      · split at h
        · rename_i hc
          have c := Bool.and_eq_true_iff.mp hc
          split at h
          · rename_i fo fi f h1 h2 h3
            cases h
            have hsw : ∀ (o i e : Expr) (p : Pos), swappedStores [.Subscript o i p] e X.env = pure none := fun o i e p => by unfold swappedStores; cases e <;> rfl
            exact ss_asg M.flat c.2 (hsw _ _ _ _) rfl (hr _ _ h3) (sg_sub M.flat c.1 (hr _ _ h1) (hr _ _ h2)) fun d ρ I => sub_nx
          · cases h
        · cases h
      · split at h
        · rename_i hc
          split at h
          · rename_i fo f h1 h2
            cases h
            exact ss_setA M.flat (fun c as z => M.mdl.cls c as z) (noSwap hc) (hr _ _ h1) (hr _ _ h2)
          · cases h
        · cases h
      · split at h
        · rename_i fo f h1 h2
          cases h
          exact ss_augA M.flat (fun c as z => M.mdl.cls c as z) (hr _ _ h1) (hr _ _ h2)
        · cases h
      · split at h
        · rename_i hp
          obtain ⟨n1, n2, n3⟩ := plain_nm hp
          split at h
          · rename_i i f hi he
            cases h
            obtain ⟨h1, h2, h3⟩ := slot_ok M.toMt hi
            exact ss_aug M.flat (ndX M.toMt) h1 h2 h3 (hr _ _ he) n1 n2
          · cases h
        · cases h
      · rename_i e p
        split at h
        · rename_i hn
          cases he : cE n C e with
          | none => rw [he] at h; cases h
          | some f => rw [he] at h; cases h; exact ss_expr M.flat hn (hr _ _ he)
        · cases h
      · rename_i e p
        cases he : cE n C e with
        | none => rw [he] at h; cases h
        | some f => rw [he] at h; cases h; exact ss_ret M.flat (hr _ _ he)
      · cases h; exact ss_retN
      · cases h; exact ss_pass
      · cases h; exact ss_break
      · cases h; exact ss_cont
      · split at h
        · rename_i h1 h2 h3; cases h; exact ss_if M.flat (ht _ _ h1) (hb _ _ h2) (hb _ _ h3)
        · cases h
      · split at h
        · rename_i h1 h2; cases h; exact ss_while M.flat M.own (ht _ _ h1) (hb _ _ h2)
        · cases h
      · split at h
        · rename_i it f h1 h2
          split at h
          · rename_i x p
            obtain ⟨si, hs⟩ := cIt_ok M.toMt hr (tg := .Name x p) h1
            cases hi : slot C x with
            | none => rw [hi] at h; cases h
            | some i =>
              rw [hi] at h; cases h
              obtain ⟨g1, g2, g3⟩ := slot_ok M.toMt hi
              exact ss_for M.flat M.own M.calm si (sg_name (ndX M.toMt) g1 g2 g3) (hb _ _ h2) hs
          · rename_i es j p
            obtain ⟨si, hs⟩ := cIt_ok M.toMt hr (tg := .Tuple es j p) h1
            cases hx : mapO isName es with
            | none => rw [hx] at h; cases h
            | some xs =>
              rw [hx] at h
              cases hi : mapO (slot C) xs with
              | none =>
                have h' : Option.map (fun is => forS it (tupT is) f) (mapO (slot C) xs) = some F := h
                rw [hi] at h'; cases h'
              | some is =>
                have h' : Option.map (fun is => forS it (tupT is) f) (mapO (slot C) xs) = some F := h
                rw [hi] at h'; cases h'
                exact ss_for M.flat M.own M.calm si (sg_tup M.calm (ndX M.toMt) (names_ok M.toMt hx hi)) (hb _ _ h2) hs
          · cases h
        · cases h
      · split at h
        · rename_i hc
          have c := Bool.and_eq_true_iff.mp hc
          split at h
          · rename_i fld f h1 h2
            cases h
            exact M.raises _ _ h1 X W _ _ _ _ _ rfl rfl rfl rfl rfl M.room M.calm M.tk M.flat (gl_of M.toMt c.1) c.2 (hr _ _ h2)
          · cases h
        · cases h
      · cases h
    · cases sts with
      | nil => unfold cSs at h; cases h; exact ss_nil
      | cons st sts =>
        unfold cSs at h
        split at h
        · rename_i h1 h2; cases h; exact ss_cons (ihS X C W k M _ _ h1) (ihB X C W k M _ _ h2)
        · cases h
end

/-! ### a def -/
noncomputable def runDef (slots : Nat) (body : SF) : FF := fun ds I => match body (ds.map some ++ List.replicate (slots - ds.length) none) I with
  | .ret d I' => fin I d I'
  | .nx _ I' => .ok .non (trim I .non I')
  | .err x I' => .err x (trim I ((x.fld.map (·.2)).getD .non) I')
  | _ => .stuck
def defOk (N ps : List Str) (sc : Scope) : Bool := (match sc.kind with | .function => true | _ => false) && !sc.isCoroutine && !sc.isGenerator && decide N.Nodup && decide (N.take ps.length = ps) && (ps.all fun x => sc.names.lookup x == some .local || sc.names.lookup x == some .cell) && (sc.names.all fun y => decide (y.2 ≠ .free))
theorem scope_ok {N ps : List Str} {sc : Scope} (h : defOk N ps sc = true) : FnScope N ps sc := by
  unfold defOk at h
  have a1 := Bool.and_eq_true_iff.mp h
  have a2 := Bool.and_eq_true_iff.mp a1.1
  have a3 := Bool.and_eq_true_iff.mp a2.1
  have a4 := Bool.and_eq_true_iff.mp a3.1
  have a5 := Bool.and_eq_true_iff.mp a4.1
  have a6 := Bool.and_eq_true_iff.mp a5.1
  refine ⟨?_, by simpa using a6.2, by simpa using a5.2, of_decide_eq_true a4.2, of_decide_eq_true a3.2, fun x hx => ?_, fun y hy => of_decide_eq_true (List.all_eq_true.mp a1.2 y hy)⟩
  · have := a6.1
    split at this
    · assumption
    · cases this
  · rcases Bool.or_eq_true_iff.mp (List.all_eq_true.mp a2.2 x hx) with e | e
    · exact .inl (eq_of_beq e)
    · exact .inr (eq_of_beq e)
theorem trimX_ok {K : PySem.W.Frag} {mg : Str → Option Value} {μ μ' : List Addr} {I I' : MH} {H H' : Hp} {x : Exn} {c : Value} {dd : Option Addr} (ok : Ok K mg μ I H) (ok' : Ok K mg μ' I' H') (e : Ext μ I H μ' I' H') (r : RepX K mg μ' I' H' x c dd) :
    ∃ μ'', Ext μ I H μ'' (trim I ((x.fld.map (·.2)).getD .non) I') H' ∧ Ok K mg μ'' (trim I ((x.fld.map (·.2)).getD .non) I') H' ∧ RepX K mg μ'' (trim I ((x.fld.map (·.2)).getD .non) I') H' x c dd := by
  obtain ⟨C, h1, h2, h3⟩ := r
  cases hf : x.fld with
  | none =>
    rw [hf] at h3
    obtain ⟨μ'', a, b, _⟩ := trim_ok (d := .non) (v := .non) ok ok' e rfl
    exact ⟨μ'', a, b, C, h1, h2, by rw [hf]; exact h3⟩
  | some p =>
    obtain ⟨f, d⟩ := p
    rw [hf] at h3
    obtain ⟨a, v, g1, g2, g3⟩ := h3
    obtain ⟨μ'', a1, b1, c1⟩ := trim_ok (d := d) (v := v) ok ok' e g3
    exact ⟨μ'', a1, b1, C, h1, h2, by rw [hf]; exact ⟨a, v, g1, g2, c1⟩⟩
section
variable {P : Program} {w : World} {K : PySem.W.Frag} {mg : Str → Option Value} {base : Heap}
/-- the context of a def's body -/
structure DefX (X : Cx) : Prop where
  stk : X.stack = X.env :: X.outer
  frm : X.env.frame = some X.env.locals
/-- THE RULE of a def, its body read in whatever way -/
theorem fn_simG {x qual : Str} {st : Stmt} {f : Addr} {fd : FuncData} {N ps : List Str} {k : Nat} {C : CC} {body : SF} (F : Fun K x qual st f fd) (hs : defOk N ps (defScope st) = true) (hC : C.sc = defScope st ∧ C.N = N)
    (Md : Mdl P w K mg base k C) (hx : ∀ x fld, C.exs.lookup x = some fld → RaiseOk P w K mg base k x fld)
    (g : Nat) (hT : ∀ q, C.tab = some q → 1 ≤ g ∧ DefAt K mg q.1 q.2 f ∧ ∃ c T, fd.code = .ref c ∧ GxR.TabB base mg c T ∧ tabIn K fd.code = some T)
    (hb : ∀ (X : Cx) (W : WX), MtS X C W k → DefX X → X.prog = P → X.w = w → X.K = K → X.mg = mg → X.base = base → SSs X W (defBody st) body) :
    FnOk P w K mg base (L2N.CX P w) (k + g + 1) f fd ps (spSim K mg ps.length (runDef N.length body)) := by
  have S := scope_ok hs
  obtain ⟨oc, od, kV, doc, pm, an, cdv, ct, osl, rfl, lk, hcd⟩ := F.ex
  refine fn_of lk hcd S (fun vs H Q E h => h.1) fun A outer s H vs Q E hr h => ?_
  obtain ⟨hl, μ, I, ds, ok, rd, p⟩ := h
  have M : MtS (cxOf (L2N.CX P w) P w K mg base N qual (defScope st) f cdv A outer s H E) C (fun c d _ H' => E c d H') k :=
    { sc := hC.1.symm, N := hC.2.symm, nd := by rw [hC.2]; exact S.nd, calm := rfl, room := hr.mono (by omega), tk := L2N.takes_of rfl rfl rfl rfl, isDef := fun _ _ => rfl, mdl := Md,
      tab := fun q hq => by
        obtain ⟨h1, h2, c, T, h3, h4, h5⟩ := hT q hq
        exact ⟨hr.mono (by omega), c, T, h3, h4, fun a ⟨f', oc', od', fd', sl', g1, g2, g3⟩ => by
          obtain rfl := h2.uniq g1
          have e2 := lk.symm.trans g2
          cases e2
          have e3 := h5.symm.trans g3
          cases e3; rfl⟩, flat := trivial, own := passes_of rfl, raises := hx }
  refine ⟨_, hb _ _ M ⟨rfl, rfl⟩ rfl rfl rfl rfl rfl, ?_⟩
  have hld : ds.length = vs.length := RVs.length rd
  refine ⟨μ, ds.map some ++ List.replicate (N.length - ds.length) none, I, ⟨?_, fun i d hi => ?_⟩, ok, ?_⟩
  · unfold L2.start
    simp [hld]
  · unfold L2.start
    by_cases hlt : i < ds.length
    · rw [List.getElem?_append_left (by rw [List.length_map]; exact hlt), List.getElem?_map] at hi
      cases hd : ds[i]? with
      | none => rw [hd] at hi; cases hi
      | some d' =>
        rw [hd] at hi; cases hi
        obtain ⟨v, hv, rv⟩ := RVs.get rd hd
        refine ⟨v, ?_, rv⟩
        rw [List.getElem?_append_left (by rw [List.length_map]; omega), List.getElem?_map, hv]
        rfl
    · rw [List.getElem?_append_right (by rw [List.length_map]; omega), List.getElem?_replicate] at hi
      split at hi <;> cases hi
  · unfold runDef at p
    cases hbd : body (ds.map some ++ List.replicate (N.length - ds.length) none) I with
    | ret d I' =>
      rw [hbd] at p
      intro μ' H' v e ok' rv
      obtain ⟨d', I'', μ'', h1, h2, h3, h4⟩ := fin_ok ok ok' e rv
      have p' : RPost K mg E μ I H _ (fin I d I') := p
      rw [h1] at p'
      exact p' μ'' H' h2 h3 v h4
    | nx ρ' I' =>
      rw [hbd] at p
      intro μ' σ' H' e ok' rr
      obtain ⟨μ'', h2, h3, h4⟩ := trim_ok (d := .non) (v := .non) ok ok' e rfl
      exact p μ'' H' h2 h3 .non h4
    | err z I' =>
      rw [hbd] at p
      intro μ' σ' H' c dd e ok' rx
      obtain ⟨μ'', h2, h3, h4⟩ := trimX_ok ok ok' e rx
      exact p μ'' H' c dd h2 h3 h4
    | brk ρ' I' => rw [hbd] at p; exact p.elim
    | cnt ρ' I' => rw [hbd] at p; exact p.elim
    | stuck => rw [hbd] at p; exact p.elim
/-- THE RULE of a def: what its text reads as is what it is worth -/
theorem fn_sim {x qual : Str} {st : Stmt} {f : Addr} {fd : FuncData} {N ps : List Str} {k n : Nat} {C : CC} {body : SF} (F : Fun K x qual st f fd) (hs : defOk N ps (defScope st) = true) (hC : C.sc = defScope st ∧ C.N = N)
    (hb : cSs n C (defBody st) = some body) (Md : Mdl P w K mg base k C) (hx : ∀ x fld, C.exs.lookup x = some fld → RaiseOk P w K mg base k x fld) (hn : C.tab = none := by rfl) :
    FnOk P w K mg base (L2N.CX P w) (k + 1) f fd ps (spSim K mg ps.length (runDef N.length body)) :=
  fn_simG F hs hC Md hx 0 (fun q hq => by rw [hn] at hq; cases hq) fun X W M _ _ _ _ _ _ => (cSS_ok n).2 X C W k M _ _ hb
/-- the same for a def that holds generator expressions -/
theorem fn_simT {x qual : Str} {st : Stmt} {f : Addr} {fd : FuncData} {N ps : List Str} {k n : Nat} {C : CC} {body : SF} (F : Fun K x qual st f fd) (hs : defOk N ps (defScope st) = true) (hC : C.sc = defScope st ∧ C.N = N)
    (hb : cSs n C (defBody st) = some body) (Md : Mdl P w K mg base k C) (hx : ∀ x fld, C.exs.lookup x = some fld → RaiseOk P w K mg base k x fld)
    (hT : ∀ q, C.tab = some q → DefAt K mg q.1 q.2 f ∧ ∃ c T, fd.code = .ref c ∧ GxR.TabB base mg c T ∧ tabIn K fd.code = some T) :
    FnOk P w K mg base (L2N.CX P w) (k + 2) f fd ps (spSim K mg ps.length (runDef N.length body)) :=
  fn_simG F hs hC Md hx 1 (fun q hq => ⟨Nat.le_refl _, hT q hq⟩) fun X W M _ _ _ _ _ _ => (cSS_ok n).2 X C W k M _ _ hb
end
end MP
/-! MX1: own exceptions whose __init__ says super().__init__(n); self.n = n -/
namespace SDX
open PySem PySem.W PySem.Calls PyProof.Rows PySem.HandSPX
def sdA (n : Str) (p1 p2 : Pos) : Arguments := { posonlyargs := [], args := [{ arg := "self", annotation := none, pos := p1 }, { arg := n, annotation := none, pos := p2 }], vararg := none, kwonlyargs := [], kw_defaults := [], kwarg := none, defaults := [] }
def sdB (n : Str) (q1 q2 q3 q4 q5 q6 q7 q8 q9 q10 : Pos) : List Stmt :=
  [.Expr (.Call (.Attribute (.Call (.Name "super" q1) [] [] q2) "__init__" q3) [.Name n q4] [] q5) q6, .Assign [.Attribute (.Name "self" q7) n q8] (.Name n q9) q10]
/-- the scope of such an __init__ -/
structure SdScope (n : Str) (sc : Scope) : Prop where
  kind : sc.kind = .function
  co : sc.isCoroutine = false
  gen : sc.isGenerator = false
  self : sc.names.lookup ("self" : Str) = some .local
  fld : sc.names.lookup n = some .local
  sup : sc.names.lookup ("super" : Str) = some .globalImplicit
  cls : sc.names.lookup ("__class__" : Str) = some .free
  nocell : ∀ x ∈ sc.names, x.2 ≠ .cell
/-- what the written part says of the class at C, its __init__ at fI, the cell of __class__ at cc, the code at cda -/
structure SdTxt (P : Program) (K : Frag) (mg : Str → Option Value) (x n : Str) (C fI cc cda : Addr) : Prop where
  gC : mg x = some (.ref C)
  cls : ∃ nm q N bs bm sn sub ab col dd k0 k1 k2 k3 k5, K.lookup C = some (excClassObj nm q C N bs bm true sn sub ab col dd k0 k1 k2 k3 k5 "ValueError.__new__") ∧ refsVE bm = true
  exI : excInitIn K C [.type "ValueError", .type "Exception", .type "BaseException", .type "object"] "ValueError.__new__" = true
  sa : findIn K (.ref C) "__setattr__" = some (some (.builtin "object.__setattr__"))
  noN : findIn K (.ref C) n = some none
  iC : findIn K (.ref C) "__init__" = some (some (.ref fI))
  tC : typeIn K (.ref fI) = some (.type "function")
  kC : keepIn K (.ref C) = true
  exC : subIn K (.ref C) (.type "BaseException") = some true
  veC : subIn K (.ref C) (.type "ValueError") = some true
  tyC : typeIn K (.ref C) = some (.type "type")
  hdC : hasDictIn K C = true
  sub : mroIn K C (.ref C) = some true
  sup : ks_superIn K C C "__init__" = some (some (.builtin "ValueError.__init__"))
  any : nsIn K cStatics "thirdparty.any" = some none
  gSup : mg "super" = none
  cell : ∃ cl cld csl, K.lookup cc = some ⟨cl, cld, .cell (some (.ref C)), csl⟩
  code : ∃ ccl cdd vs ccs file tf, K.lookup cda = some ⟨ccl, cdd, .fields vs, ccs⟩ ∧ vs[2]? = some (.str file tf) ∧ ((P.main.file : Str) == file) = true
  top : (P.main.scope.names.lookup ("super" : Str)).isSome = false
  fn : ∃ (oc : Value) (od : Option Addr) (name qual : Str) (sc : Scope) (doc pm : Value) (an : Option Addr) (ct : Value) (osl : Array (Option Value)) (p1 p2 q1 q2 q3 q4 q5 q6 q7 q8 q9 q10 : Pos),
    K.lookup fI = some ⟨oc, od, .func (ksFn name qual (sdA n p1 p2) (sdB n q1 q2 q3 q4 q5 q6 q7 q8 q9 q10) sc .none .none doc pm an (.ref cda) ct cc), osl⟩ ∧ codeIn K (.ref cda) qual = true ∧ SdScope n sc ∧ (q3.endLine == q5.line) = true
/-- the field's name is one of ours -/
structure SdName (n : Str) : Prop where
  dbg : (n == ("__debug__" : Str)) = false
  slf : n ≠ "self"
  bind : ∀ (s : Shared) (name qual : Str) (sc : Scope) (p1 p2 q1 q2 q3 q4 q5 q6 q7 q8 q9 q10 : Pos) (doc pm ct cd : Value) (an : Option Addr) (cc : Addr) (u v : Value),
    BindsTo s (ksFn name qual (sdA n p1 p2) (sdB n q1 q2 q3 q4 q5 q6 q7 q8 q9 q10) sc .none .none doc pm an cd ct cc) ⟨[u, v], []⟩ [(("self" : Str), u), (n, v)]
theorem kept_but {K : Frag} {h h' : Heap} {x : Addr} (X : K.In h) (hx : K.lookup x = none) (k : ∀ b o, b ≠ x → h.get? b = some o → h'.get? b = some o) : K.In h' := fun a o e =>
  k a o (fun z => by rw [z, hx] at e; cases e) (X a o e)
/-- what __init__ leaves of a fresh exception at x -/
structure InitEnd (n : Str) (h h' : Heap) (x C dx t1 : Addr) (v : Value) : Prop where
  keep : ∀ b o, b ≠ x → h.get? b = some o → h'.get? b = some o
  obj : h'.get? x = some { cls := .ref C, dict := some dx, data := .fields #[.ref t1, .none, .none, .none, .bool false, .none] }
  dbig : h.objs.size ≤ dx
  dne : dx ≠ x
  ns : h'.Ns1 dx (fun y => if y = n then some v else none)
/-- a made one -/
structure OwnMade (n : Str) (h h' : Heap) (e C d : Addr) (v : Value) : Prop where
  keep : ∀ b o, h.get? b = some o → h'.get? b = some o
  new : h.objs.size ≤ e
  obj : ∃ oe vs, h'.get? e = some oe ∧ oe.cls = .ref C ∧ oe.dict = some d ∧ oe.data = .fields vs ∧ vs[1]? = some .none ∧ vs[2]? = some .none
  dbig : h.objs.size ≤ d
  dne : d ≠ e
  ns : h'.Ns1 d (fun y => if y = n then some v else none)
section
variable {prog : Program} {w : World} {A : Around} {E : Value → Shared → Prop} {R : Result → Shared → Prop} {s : Shared} {K : Frag} {mg : Str → Option Value} {base : Heap} {x0 n : Str} {C fI cc cda : Addr}
theorem sd_init (T : SdTxt prog K mg x0 n C fI cc cda) (SN : SdName n) {x t0 : Addr} {v : Value} (B : L2.Mod K mg base) (bk : ∀ b o, base.get? b = some o → s.heap.get? b = some o) (bz : base.objs.size ≤ s.heap.objs.size)
    (hx : s.heap.get? x = some (excO C t0)) (hnx : base.get? x = none) (hroom : A.depth < recursionLimit)
    (hq : ∀ h' tk dx t1, InitEnd n s.heap h' x C dx t1 v → R (.ok (.ret .none)) { s with heap := h', toks := tk }) :
    codeAny (model prog w) A (.call (.ref fI) ⟨[.ref x, v], []⟩) R s := by
  obtain ⟨oc, od, name, qual, sc, doc, pm, an, ct, osl, p1, p2, q1, q2, q3, q4, q5, q6, q7, q8, q9, q10, ho, hcd, S, hln⟩ := T.fn
  obtain ⟨sk, snames, sgen, sco, smore⟩ := sc
  obtain rfl : sk = .function := S.kind
  obtain ⟨cl, cld, csl, hcell⟩ := T.cell
  obtain ⟨ccl, cdd, vs, ccs, file, tf, hcode, hvs, hfile⟩ := T.code
  obtain ⟨nm, q, N, bs, bm, sn, sub, ab, col, dd, k0, k1, k2, k3, k5, hC, hbm⟩ := T.cls
  have X : K.In s.heap := B.kin.keeps bk
  have hcl : clsIn K C = some { name := nm, bases := bs, mro := .ref C :: bm, ns := N, qualname := q, hasDict := true, slotNames := sn, subclasses := sub, abstract := ab, collection := col, hasDel := false } := by unfold clsIn; rw [hC] <;> rfl
  obtain ⟨mb, hmb, hmbv⟩ := B.blt
  refine ks_codeAny_call_defAt (fd := ksFn name qual (sdA n p1 p2) (sdB n q1 q2 q3 q4 q5 q6 q7 q8 q9 q10) ⟨.function, snames, sgen, sco, smore⟩ .none .none doc pm an (.ref cda) ct cc) (body := sdB n q1 q2 q3 q4 q5 q6 q7 q8 q9 q10) (binds := [(("self" : Str), .ref x), (n, v)]) hroom (X _ _ ho) rfl (B.nolimit.keeps bk) (codeRec_of X hcd) rfl
    (SN.bind _ _ _ _ _ _ _ _ _ _ _ _ _ _ _ _ _ _ _ _ _ _ _ _) S.nocell (fun y hy => ?_) (fun h1 hns hk1 => ?_) S.co S.gen S.kind
  · rcases List.mem_cons.mp hy with rfl | hy
    · exact S.self
    · rcases List.mem_cons.mp hy with rfl | hy
      · exact S.fld
      · cases hy
  have gG : ∀ b o, (hideAll s.heap [x]).get? b = some o → s.heap.get? b = some o := fun b o e => of_hideAll _ e
  have toG : ∀ b o, b ≠ x → s.heap.get? b = some o → (hideAll s.heap [x]).get? b = some o := fun b o hb e => hideAll_get _ e (by simpa using hb)
  have bG : ∀ b o, base.get? b = some o → (hideAll s.heap [x]).get? b = some o := fun b o e => toG b o (fun z => by rw [z, hnx] at e; cases e) (bk b o e)
  have XG : K.In (hideAll s.heap [x]) := B.kin.keeps bG
  have F : Fr (hideAll s.heap [x]) s.heap.objs.size h1 (fun y => [(("self" : Str), Value.ref x), (n, v)].reverse.lookup y) := ⟨hns, fun b o e => hk1 b o (gG b o e), Nat.le_of_eq (hideAll_size _ _)⟩
  have hx1 := hk1 _ _ hx
  have N1 : News (hideAll s.heap [x]) s.heap.objs.size h1 [(x, excO C t0)] := fun p hp => by
    obtain rfl : p = (x, excO C t0) := by simpa using hp
    exact ⟨hx1, Nat.ne_of_lt (Heap.lt_size hx), hideAll_none _ (by simp)⟩
  have X1 : K.In h1 := X.keeps hk1
  have hslf : (fun y => [(("self" : Str), Value.ref x), (n, v)].reverse.lookup y) ("self" : Str) = some (Value.ref x) := by
    have : (("self" : Str) == n) = false := by simpa using (Ne.symm SN.slf)
    simp [List.lookup, this]
  have hfld : (fun y => [(("self" : Str), Value.ref x), (n, v)].reverse.lookup y) n = some v := by simp [List.lookup]
  show _root_.PySem.wpAt (model prog w) (A.deeper (ksEnv qual ⟨.function, snames, sgen, sco, smore⟩ s.heap.objs.size fI (.ref cda) cc)) (.func _ (ksEnv qual ⟨.function, snames, sgen, sco, smore⟩ s.heap.objs.size fI (.ref cda) cc)) (execs (sdB n q1 q2 q3 q4 q5 q6 q7 q8 q9 q10) (ksEnv qual ⟨.function, snames, sgen, sco, smore⟩ s.heap.objs.size fI (.ref cda) cc)) _ _ _
  unfold sdB
  refine ks_wpAt_execs_cons (ks_wpAt_Expr_any (ks_wpAt_MethodCall (pl := (do return (← importBound (.Call (.Name "super" q1) [] [] q2) (ksEnv qual ⟨.function, snames, sgen, sco, smore⟩ s.heap.objs.size fI (.ref cda) cc)).getD true)) ?_ ?_))
  · refine ks_wpAt_super_base (env := ksEnv qual ⟨.function, snames, sgen, sco, smore⟩ s.heap.objs.size fI (.ref cda) cc) S.sup S.cls (by decide) rfl (X1 _ _ ho) rfl rfl rfl (X1 _ _ hcode) rfl hvs hfile T.top ?_
    refine ks_loadName_global S.kind S.sup (loadGlobal_builtin (env := ksEnv qual ⟨.function, snames, sgen, sco, smore⟩ s.heap.objs.size fI (.ref cda) cc) (B.glob.keeps fun b o e => F.keep b o (bG b o e)) T.gSup (hmb.keeps fun b o e => F.keep b o (bG b o e)) (hmbv _ (by decide +kernel)) ⟨rfl, ?_⟩)
    refine wpAny_loadName_free S.kind S.cls rfl ⟨_, X1 _ _ hcell, rfl⟩ ?_
    refine wpAny_loadName_local S.kind S.self F.ns hslf ?_
    refine ks_wpAny_isType_cls (X1 _ _ hC) rfl ⟨rfl, ?_⟩
    refine ks_wpAny_call_super (X1 _ _ hC) rfl hx1 rfl (fun c e => by cases e) (looks_mroIn X1 T.sub) (fun h2 e2 kk2 => ?_)
    obtain ⟨F2, N2, _⟩ := ks_newsPush (s := ⟨h1, s.gens, s.drawn, s.toks + 2, s.os⟩) (o := ks_superObj C x C) F N1 rfl e2 kk2
    have I2 : InstAt h2 x (excO C t0) C none := ⟨(N2 (x, excO C t0) (.tail _ (List.mem_cons_self ..))).1, rfl, rfl, trivial⟩
    refine kxs_method (K := K) (C := C) (D := C) kxs_ValueError F2 XG N2 (List.mem_cons_self ..) I2 T.any T.sup T.veC (by decide) (fun q' h3 F3 N3 l3 => ?_)
    refine kxs_callWith1 (i := "ValueError.__init__") (x := x) N3 (List.mem_cons_self ..) ?_
    refine Calls.spliced_cons (wpAny_Name (wpAny_loadName_local S.kind S.fld F3.ns hfld ?_) SN.dbg)
    refine Calls.spliced_nil ⟨kxs_at N3 (List.mem_cons_self ..), ?_⟩
    have ne1 : x ≠ q' := Nat.ne_of_lt (l3 (x, excO C t0) (by simp))
    have ne2 : x ≠ h1.objs.size := Nat.ne_of_lt (Heap.lt_size hx1)
    refine kxs_call (t := t0) (dv := none) (c2 := .none) F3 XG N3 PySem.F.excBase_ValueError T.exI (List.mem_cons_self ..) (.tail (Ne.symm ne1) (.tail (Ne.symm ne2) (.head fun p hp => nomatch hp))) (by rw [sizeLine_eq]; exact (by decide : 1 ≤ 16777216)) (fun t' h4 F4 N4 l4 => ?_)
    have hx4 : h4.get? x = some (excO C t') := (N4 (x, excO C t') (by simp)).1
    have k4 : ∀ b o, b ≠ x → s.heap.get? b = some o → h4.get? b = some o := fun b o hb e => F4.keep b o (toG b o hb e)
    have z4 : s.heap.objs.size < h4.objs.size := F4.ns.lt
    refine wpAt_of_wpAny (wpAny_execs_cons (plainObj_wpAny_Assign_Attribute ?_))
    refine wpAny_Name (wpAny_loadName_local rfl S.fld F4.ns hfld ?_) SN.dbg
    refine wpAny_Name (wpAny_loadName_local rfl S.self F4.ns hslf ?_) (by decide)
    refine set_plain (XG.keeps F4.keep) (ox := excO C t') (od := none) ⟨hx4, rfl, rfl, trivial⟩ T.sa ?_
    refine exc_osa (XG.keeps F4.keep) hx4 hcl (show refsVE (.ref C :: bm) = true from hbm) rfl T.noN (fun h5 tk5 dx k5 dn dne hx5 hn5 => ?_)
    refine wpAny_execs_nil (hq h5 tk5 dx t' ⟨fun b o hb e => k5 b o hb (k4 b o hb e), hx5, Nat.le_of_lt (Nat.lt_of_lt_of_le z4 dn), dne, hn5⟩)
  · rw [arm_eval_Call]
    unfold methodCall calleeOf methodCallPos
    rw [show (!methodCallForm ([Expr.Name n q4].length + ([] : List Keyword).length) (backTo q5 (starEach [Expr.Name n q4] (ksEnv qual ⟨.function, snames, sgen, sco, smore⟩ s.heap.objs.size fI (.ref cda) cc))) (backToKw q5 (keywordEach [] (ksEnv qual ⟨.function, snames, sgen, sco, smore⟩ s.heap.objs.size fI (.ref cda) cc)))) = false from rfl, hln]
    rfl
theorem sd_made (T : SdTxt prog K mg x0 n C fI cc cda) (SN : SdName n) {v : Value} (B : L2.Mod K mg base) (bk : ∀ b o, base.get? b = some o → s.heap.get? b = some o) (bz : base.objs.size ≤ s.heap.objs.size) (hroom : A.depth + 1 < recursionLimit)
    (hq : ∀ h' tk e d, OwnMade n s.heap h' e C d v → R (.ok (.ret (.ref e))) { s with heap := h', toks := tk }) :
    codeAny (model prog w) A (.call (.ref C) ⟨[v], []⟩) R s := by
  obtain ⟨nm, q, N, bs, bm, sn, sub, ab, col, dd, k0, k1, k2, k3, k5, hC, hbm⟩ := T.cls
  obtain ⟨hp, g, dr, tk, os⟩ := s
  have X : K.In hp := B.kin.keeps bk
  have k : ∀ b o, hp.get? b = some o → ((hp.push (kdv_tup [v])).push (excO C hp.objs.size)).get? b = some o := fun b o e => Heap.get?_push_of_some _ (Heap.get?_push_of_some _ e)
  have hget : ((hp.push (kdv_tup [v])).push (excO C hp.objs.size)).get? (hp.objs.size + 1) = some (excO C hp.objs.size) := by heap_get
  have hnx : base.get? (hp.objs.size + 1) = none := by
    cases e : base.get? (hp.objs.size + 1) with
    | none => rfl
    | some o => exact absurd (Nat.lt_of_succ_lt (Heap.lt_size (bk _ _ e))) (Nat.lt_irrefl _)
  refine call_own PySem.F.excBase_ValueError (fun X => refsVE_contains X bm hbm) (X _ _ hC) (looks_findIn X T.iC) (fun self => bind_fn X self T.tC) (by rw [sizeLine_eq]; exact (by decide : 1 ≤ 16777216)) ?_
  refine sd_init (s := ⟨(hp.push (kdv_tup [v])).push (excO C hp.objs.size), g, dr, tk, os⟩) T SN B (fun b o e => k b o (bk b o e)) ?_ hget hnx ?_ fun h' tk' dx t1 ⟨k', hx, dn, dne, hns⟩ => ?_
  · show base.objs.size ≤ ((hp.push _).push _).objs.size
    rw [Heap.size_push, Heap.size_push]
    exact Nat.le_succ_of_le (Nat.le_succ_of_le bz)
  · show A.depth + 1 < recursionLimit
    exact hroom
  · have old : ∀ b o, hp.get? b = some o → h'.get? b = some o := fun b o e => k' b o (Nat.ne_of_lt (Nat.lt_succ_of_lt (Heap.lt_size e))) (k b o e)
    have z : hp.objs.size + 1 + 1 ≤ dx := by
      have q := dn
      rw [Heap.size_push, Heap.size_push] at q
      exact q
    exact ⟨rfl, hq h' tk' (hp.objs.size + 1) dx ⟨old, Nat.le_succ _, ⟨_, _, hx, rfl, rfl, rfl, rfl, rfl⟩, Nat.le_trans (Nat.le_trans (Nat.le_succ _) (Nat.le_succ _)) z, dne, hns⟩⟩
end
end SDX
/-! MX2: raise of the own exceptions -/
namespace MP
open PySem PySem.Spec L2
theorem relO_sd {n : Str} {v : V} {v' : Value} (r : RelV v v') (f : Str) : RelO (List.lookup f [(n, v)]) (if f = n then some v' else none) := by
  by_cases hw : f = n
  · subst hw
    rw [if_pos rfl]
    have q : List.lookup f [(f, v)] = some v := by simp [List.lookup]
    rw [q]
    exact r
  · rw [if_neg hw]
    have qw : (f == n) = false := by simpa using hw
    have q2 : List.lookup f [(n, v)] = none := by simp [List.lookup, qw]
    rw [q2]
    trivial
section
variable {X : Cx} {x n : Str} {C fI cc cda : Addr}
def tMkSd (n : Str) (C : Addr) (ta : TA) : L2.St → Hp → XK → Prop := fun σ H Q => ta σ H fun vs H1 => ∃ v, vs = [v] ∧ ∀ d, H1 d = none → Q (.ref C) (some d) (upd H1 d (.xd [(n, v)]))
theorem pmk_sd {a : Expr} {ta : TA} {p pos : Pos} {k : Nat} (T : SDX.SdTxt X.prog X.K X.mg x n C fI cc cda) (SN : SDX.SdName n) (hr : Room k X.A) (ha : PA X [a] ta) (hg : Gl X x) (hdb : (x == ("__debug__" : Str)) = false)
    (he : starEach (a :: []) X.env = (false, eval a X.env) :: starEach [] X.env) (hpl : (backTo pos (starEach [] X.env)).any (·.1) = false := by rfl) :
    L2N.PMk X (.Call (.Name x p) [a] [] pos) (tMkSd n C ta) := by
  intro pins s σ H Q I h
  refine wpAny_Call_Name_kw (ld_glob I hg T.gC ?_ hdb)
  refine PySem.W.callWith_K (h₀ := X.base) I.ok.mod.kin T.kC (thn (ha.run pos pins s σ H _ I h) fun us s1 hh => ?_) he hpl
  obtain ⟨vs, H1, I1, r1, v, ev, q1⟩ := hh
  subst ev
  refine ⟨I1.kIn, ?_⟩
  cases r1 with
  | cons rv rn =>
    rename_i v' us'
    cases rn
    show wpAny _ _ (call (.ref C) [v']) _ _ _
    obtain ⟨m1, F1⟩ := I1.fr
    have bz1 : X.base.objs.size ≤ s1.heap.objs.size := Nat.le_trans F1.above (Nat.le_of_lt I1.lt)
    have bk1 := I1.bk
    obtain ⟨hp, g, dr, tk, os⟩ := s1
    refine wpAny_call (SDX.sd_made T SN I1.mod bk1 bz1 (by have := hr.dp; omega) fun h' tk' e d M => ?_)
    show L2N.MkP X pins σ Q (.ref e) ⟨h', g, dr, tk', os⟩
    obtain ⟨oe, fv, hoe, hc, hd, hdat, h1, h2⟩ := M.obj
    have hns := M.ns
    obtain ⟨G', g1, g2⟩ := restrict h' fun b => decide (b ≠ e)
    have gk : ∀ b, b ≠ e → G'.get? b = h'.get? b := fun b hb => g1 b (decide_eq_true hb)
    have ge : G'.get? e = none := g2 e (by simp)
    have old : ∀ b o, hp.get? b = some o → G'.get? b = some o := fun b o q => (gk b (Nat.ne_of_lt (Nat.lt_of_lt_of_le (Heap.lt_size q) M.new))).trans (M.keep b o q)
    have ob : ObjOk X.prog X.w (upd H1 d (.xd [(n, v)])) G' d (.xd [(n, v)]) :=
      ⟨_, hns.at (fun o q => (gk d M.dne).trans q), fun f => relO_sd rv f⟩
    have J : Inv X pins σ (upd H1 d (.xd [(n, v)])) ⟨G', g, dr, tk', os⟩ := I1.laid (t' := tk') old M.dbig ob
    refine ⟨e, oe, fv, ⟨G', g, dr, tk', os⟩, _, .ref C, some d, rfl, J, fun b o q => ?_, ge, hoe, ⟨hc, hd, fun vs hv => ?_⟩, hdat, h1, ?_, rfl, I1.bare, raises_own T.exC T.tyC, q1 d (I1.hok.fresh M.dbig)⟩
    · by_cases hb : b = e
      · have q' : G'.get? b = some o := q
        rw [hb, ge] at q'; cases q'
      · exact (gk b hb).symm.trans q
    · rw [hdat] at hv
      cases hv
      exact h2
    · rw [upd_ne (Ne.symm M.dne)]
      exact I1.hok.fresh M.new
end
section
variable {P : Program} {w : World} {K : PySem.W.Frag} {mg : Str → Option Value} {base : Heap} {k : Nat} {x n : Str} {C fI cc cda : Addr}
theorem raise_sd (T : SDX.SdTxt P K mg x n C fI cc cda) (SN : SDX.SdName n) (hdb : (x == ("__debug__" : Str)) = false) : RaiseOk P w K mg base k x (some n) := by
  intro X W e f p pos pos2 e1 e2 e3 e4 e5 hr hc tk hW hg hn he
  subst e1 e2 e3 e4 e5
  have hs := star_cons (env := X.env) (es := []) hn
  refine ps_weak (L2N.ps_raise hc tk (pmk_sd T SN hr (pa_cons he pa_nil hs) hg hdb hs)) fun De σ H ⟨μ, ρ, I, rr, ok, p⟩ => ?_
  refine ⟨μ, ρ, I, rr, ok, (bindS_post hW (σ := σ) p).imp (S' := sE X _) (fun μ1 I1 H1 d e1 ok1 q v rv => ?_) fun _ _ _ z => z⟩
  refine ⟨v, rfl, fun a ha => ?_⟩
  exact q μ1 σ (upd H1 a (.xd [(n, v)])) (.ref C) (some a) (Ext.same (same_upd ha)) (ok1.same (same_upd ha)) ⟨C, T.gC, rfl, a, v, rfl, upd_same, rv_same ok1 (same_upd ha) rv⟩
/-- an own class without own __init__ -/
structure OwTxt (K : PySem.W.Frag) (mg : Str → Option Value) (x : Str) (C : Addr) : Prop where
  gC : mg x = some (.ref C)
  ex : PySem.W.excIn K C [.type "ValueError", .type "Exception", .type "BaseException", .type "object"] "ValueError.__new__" = true
  kC : PySem.W.keepIn K (.ref C) = true
  exC : PySem.W.subIn K (.ref C) (.type "BaseException") = some true
  tyC : PySem.W.typeIn K (.ref C) = some (.type "type")
theorem pmk_ow {X : Cx} {a : Expr} {ta : TA} {p pos : Pos} (T : OwTxt X.K X.mg x C) (ha : PA X [a] ta) (hg : Gl X x) (hdb : (x == ("__debug__" : Str)) = false)
    (he : starEach (a :: []) X.env = (false, eval a X.env) :: starEach [] X.env) (hpl : (backTo pos (starEach [] X.env)).any (·.1) = false := by rfl) :
    L2N.PMk X (.Call (.Name x p) [a] [] pos) (fun σ H Q => ta σ H fun vs H1 => vs.length ≤ sizeLine ∧ Q (.ref C) none H1) := by
  intro pins s σ H Q I h
  refine wpAny_Call_Name_kw (ld_glob I hg T.gC ?_ hdb)
  refine PySem.W.callWith_K (h₀ := X.base) I.ok.mod.kin T.kC (thn (ha.run pos pins s σ H _ I h) fun us s1 ⟨vs, H1, I1, r1, hz, q1⟩ => ⟨I1.kIn, ?_⟩) he hpl
  show wpAny _ _ (call (.ref C) us) _ _ _
  obtain ⟨bm, N, nm, qn, bs, hdct, sn, sub, ab, col, dd, k0, k1, k2, k3, k5, mN, hC, hN, hni, T'⟩ := exc_obj I1.kIn T.ex
  refine wpAny_call_exc_subT PySem.F.excBase_ValueError T' hC hN hni (fun h' e hm => ?_) (by rw [← r1.length]; exact hz)
  exact L2N.mk_of I1 hm (raises_own T.exC T.tyC) q1 (I1.hok.gone hm.new)
theorem raise_ow (T : OwTxt K mg x C) (hdb : (x == ("__debug__" : Str)) = false) : RaiseOk P w K mg base k x none := by
  intro X W e f p pos pos2 e1 e2 e3 e4 e5 hr hc tk hW hg hn he
  subst e1 e2 e3 e4 e5
  have hs := star_cons (env := X.env) (es := []) hn
  refine ps_weak (L2N.ps_raise hc tk (pmk_ow T (pa_cons he pa_nil hs) hg hdb hs)) fun De σ H ⟨μ, ρ, I, rr, ok, p⟩ => ?_
  refine ⟨μ, ρ, I, rr, ok, (bindS_post hW (σ := σ) p).imp (S' := sE X _) (fun μ1 I1 H1 d e1 ok1 q v rv => ?_) fun _ _ _ z => z⟩
  refine ⟨by rw [sizeLine_eq]; exact (by decide : 1 ≤ 16777216), ?_⟩
  exact q μ1 σ H1 (.ref C) none Ext.refl ok1 ⟨C, T.gC, rfl, rfl⟩
end
end MP
/-! MX3: try .. except X as e -/
namespace MP
open PySem PySem.Spec L2
/-- the caught exception's field -/
def FldAt (K : PySem.W.Frag) (μ : List Addr) (I : MH) (H : Hp) (d : Option Addr) : Option (Str × D) → Prop
  | none => d = none
  | some (f, x) => ∃ dd v, d = some dd ∧ H dd = some (.xd [(f, v)]) ∧ RV K μ I H x v
/-- what the suite says: the exception's field to what is returned -/
def tSu (X : Cx) (i : Nat) (sd : Option (Str × D) → Option D) (a : Addr) (d : Option Addr) : TS := fun De σ H =>
  (i < σ.length → σ[i]? = some (some (.ref a))) ∧ ∃ μ I fl r, Ok X.K X.mg μ I H ∧ FldAt X.K μ I H d fl ∧ sd fl = some r ∧ ∀ μ' H' v, Ext μ I H μ' I H' → Ok X.K X.mg μ' I H' → RV X.K μ' I H' r v → De.rt v H'
def SuiteOk (X : Cx) (i : Nat) (C : Addr) (suite : List Stmt) (sd : Option (Str × D) → Option D) : Prop :=
  ∀ (a : Addr) (oe : Obj) (d : Option Addr) (pn : List (Addr × Obj)), L2N.Zn (.ref C) d oe → (∃ vs, oe.data = .fields vs) → PSs (X.suite a ((a, oe) :: pn)) suite (tSu X i sd a d)
def tryS (x : Str) (sd : Option (Str × D) → Option D) (f : SF) : SF := fun ρ I => match f ρ I with
  | .err e I1 => if e.cls = x then (match sd e.fld with
    | some r => .ret r I1
    | none => .stuck) else .stuck
  | r => r
theorem ss_try {X : Cx} {W : WX} {x n : Str} {C : Addr} {i : Nat} {b₀ : Stmt} {body suite : List Stmt} {np pos pos' : Pos} {sd : Option (Str × D) → Option D} {f : SF} (D0 : DefX X) (hN : X.N.Nodup) (hi : X.N[i]? = some n) (hln : X.env.kindOf n = some .local)
    (hc : Names X x (.ref C)) (gC : X.mg x = some (.ref C)) (hex : PySem.W.exmOne X.K (.ref C) (.ref C) = some true) (tk : L2N.Takes X W)
    (hb : ∀ (W : WX) (pn : List (Addr × Obj)) (xe : Value → Shared → Prop), L2N.Takes (X.tr pn xe) W → PassesOwn (model X.prog X.w) X.A X.env xe → SSs (X.tr pn xe) W body f)
    (hsu : SuiteOk X i C (b₀ :: suite) sd) : SS X W (.Try body [.ExceptHandler (some (.Name x np)) (some n) (b₀ :: suite) pos'] [] [] pos) (tryS x sd f) := by
  refine ps_weak (L2N.ps_try_as (ts := fun a cls d De σ H => cls = .ref C ∧ tSu X i sd a d De σ H) (tb := fun W' => tS X W' f) D0.stk D0.frm hN hi hln hc tk hb (fun a oe cls d pn hz hf => ⟨fun pins s σ H De I q => ?_⟩)) fun De σ H ⟨μ, ρ, I, rr, ok, p⟩ => ?_
  · obtain ⟨rfl, q⟩ := q
    exact (hsu a oe d pn hz hf).run pins s σ H De I q
  · refine ⟨μ, ρ, I, rr, ok, ?_⟩
    unfold tryS at p
    cases hf : f ρ I with
    | err e I1 =>
      rw [hf] at p
      dsimp only at p
      split at p
      · rename_i hcl
        cases hs : sd e.fld with
        | none => rw [hs] at p; exact p.elim
        | some r =>
          rw [hs] at p
          intro μ1 σ1 H1 c dd e1 ok1 rx
          obtain ⟨C', g1, g2, g3⟩ := rx
          rw [hcl, gC] at g1
          cases g1
          subst g2
          refine ⟨true, hex, fun _ a na => ⟨rfl, fun hlt => ?_, μ1, I1, e.fld, r, ok1, ?_, hs, fun μ2 H2 v e2 ok2 rv => p μ2 H2 v (e1.trans e2) ok2 rv⟩, fun z => nomatch z⟩
          · rw [List.length_set] at hlt
            exact List.getElem?_set_self hlt
          · cases hfl : e.fld with
            | none => rw [hfl] at g3; exact g3
            | some q =>
              rw [hfl] at g3
              obtain ⟨a', v, q1, q2, q3⟩ := g3
              exact ⟨a', v, q1, q2, q3⟩
      · exact p.elim
    | nx ρ1 I1 => rw [hf] at p; exact p
    | ret d I1 => rw [hf] at p; exact p
    | brk ρ1 I1 => rw [hf] at p; exact p
    | cnt ρ1 I1 => rw [hf] at p; exact p
    | stuck => rw [hf] at p; exact p
/-! ### isinstance of the caught exception -/
structure ExcD (K : PySem.W.Frag) (C : Addr) : Prop where
  hg : PySem.W.findIn K (.ref C) "__getattribute__" = some (some (.builtin "BaseException.__getattribute__"))
  hk : PySem.W.findIn K (.ref C) "__getattr__" = some none
  hs : PySem.W.subIn K (.ref C) (.type "BaseException") = some true
  hd : PySem.W.hasDictIn K C = true
  ha : PySem.W.findIn K (.ref C) "__class__" = some (some (.builtin "object.__class__"))
  hn : PySem.W.specialIn K (.builtin "object.__class__") "__get__" = some (some (.builtin "getset_descriptor.__get__"))
  ht : PySem.W.takesIn K (.builtin "object.__class__") = some true
  hm : PySem.W.mroIn K C (.type "object") = some true
theorem ExcD.cl {K : PySem.W.Frag} {C : Addr} (E : ExcD K C) : (PySem.W.clsIn K C).isSome = true := by
  obtain ⟨cd, hc, _⟩ := PySem.W.any_some E.hd
  rw [hc] <;> rfl
/-- isinstance(e, c), e the exception that the suite holds, with or without a dict -/
def rIsX (K : PySem.W.Frag) (C a : Addr) (d : Option Addr) : List V → Hp → VK → Prop := fun xs H Q => ∃ (c : V) (cv : Value) (b : Bool), xs = [.ref a, c] ∧ (∀ u, RelV c u → u = cv) ∧ PySem.W.kitOne K (.ref C) cv = some b ∧ (d = none ∨ ∃ dd fs, d = some dd ∧ H dd = some (.xd fs)) ∧ Q (.bl b) H
theorem call_isX {X : Cx} {a C : Addr} {oe : Obj} {d : Option Addr} {pn : List (Addr × Obj)} (E : ExcD X.K C) (hz : Zc (.ref C) d oe) (hf : ∃ vs, oe.data = .fields vs) : CallR (X.suite a ((a, oe) :: pn)) (.builtin "isinstance") (rIsX X.K C a d) := by
  intro pins s σ H xs us Q I r h
  obtain ⟨c, cv, b, rfl, hcv, e, hd, q⟩ := h
  cases r with
  | cons rx rr =>
    cases rr with
    | cons rt rr =>
      cases rr
      cases rx
      have ec := hcv _ rt
      subst ec
      obtain ⟨hget, _⟩ := I.pin (a, oe) (List.mem_append.mpr (.inl List.mem_cons_self))
      obtain ⟨vs, hv⟩ := hf
      obtain ⟨od, J⟩ : ∃ od, PySem.W.InstAt s.heap a oe C od := by
        rcases hd with rfl | ⟨dd, fs, rfl, ea⟩
        · exact ⟨none, hget, hz.1, by unfold PySem.W.notCls; rw [hv] <;> rfl, by rw [hz.2]; trivial⟩
        · have hx : ObjOk X.prog X.w H s.heap dd (.xd fs) := I.hok dd _ ea
          obtain ⟨mA, hns, hr⟩ := hx
          obtain ⟨od, ho, hl⟩ := lookIn_ns hns
          exact ⟨some od, hget, hz.1, by unfold PySem.W.notCls; rw [hv] <;> rfl, by rw [hz.2]; exact ho⟩
      exact PySem.W.kia_one (PySem.W.kitx_exc E.cl E.hg E.hk E.hs E.ha E.hn E.ht E.hm) I.kIn J e (fun z => nomatch z) fun tk => ⟨.bl b, H, I.kept (t' := tk) fun _ _ z => z, rfl, q⟩
end MP
/-! MX4: the suites of the laws' "told" -/
namespace MP
open PySem PySem.Spec L2
/-! ### is_integer, called in a suite -/
/-- its body -/
def isIntB (x : Str) (p1 p2 p3 p4 p5 p6 p7 p8 p9 p10 p11 : Pos) : List Stmt :=
  [.Return (some (.BoolOp .And [.Call (.Name "isinstance" p1) [.Name x p2, .Name "int" p3] [] p4, .UnaryOp .Not (.Call (.Name "isinstance" p5) [.Name x p6, .Name "bool" p7] [] p8) p9] p10)) p11]
def spIsInt : Sp := fun vs H Q _ => ∃ z, vs = [.int z] ∧ Q (.bl true) H
section
variable {P : Program} {w : World} {K : PySem.W.Frag} {mg : Str → Option Value} {base : Heap}
theorem isInt_fnH {x qual y : Str} {st : Stmt} {f : Addr} {fd : FuncData} {k : Nat} {p1 p2 p3 p4 p5 p6 p7 p8 p9 p10 p11 : Pos} (F : Fun K x qual st f fd) (hs : defOk [y] [y] (defScope st) = true) (hb : defBody st = isIntB y p1 p2 p3 p4 p5 p6 p7 p8 p9 p10 p11)
    (hI : (defScope st).names.lookup ("isinstance" : Str) = some .globalImplicit) (hT : (defScope st).names.lookup ("int" : Str) = some .globalImplicit) (hB : (defScope st).names.lookup ("bool" : Str) = some .globalImplicit) (hy : (defScope st).names.lookup y = some .local)
    (hd1 : (y == ("__debug__" : Str)) = false) (hd2 : (y == ("__classdict__" : Str)) = false)
    (mI : mg "isinstance" = none) (mT : mg "int" = none) (mB : mg "bool" = none) : L2H.FnH P w K mg base (L2N.CX P w) (k + 1) f fd [y] spIsInt := by
  have S := scope_ok hs
  obtain ⟨oc, od, kV, doc, pm, an, cdv, ct, osl, rfl, lk, hcd⟩ := F.ex
  refine L2H.fn_ofH lk hcd S (fun vs H Q E ⟨z, h, _⟩ => by rw [h]; rfl) fun A outer s H vs Q E p hot hr hsp => ?_
  obtain ⟨z, rfl, hq⟩ := hsp
  rw [hb]
  let X := L2H.cxH (L2N.CX P w) P w K mg base [y] qual (defScope st) f cdv A outer s H E p
  have vy : ∀ {pp : Pos}, PE X (.Name y pp) (tVar 0) := fun {pp} => pe_var (X := X) rfl (.inl hy) hd1 hd2
  have gI : Gl X "isinstance" := hI
  have cI : ∀ {T : Str} {pa pb pc pd : Pos}, Gl X T → mg T = none → ∀ {tn : String}, bootBuiltins T = some (.type tn) → T ≠ "__name__" → (T == ("__debug__" : Str)) = false →
      PE X (.Call (.Name "isinstance" pa) [.Name y pb, .Name T pc] [] pd) (tCB (rIsi X.K) (tCons (tVar 0) (tCons (tC (.ty tn)) tNil))) := fun {T pa pb pc pd} g m {tn} hv hn hd =>
    pe_callB call_isi gI mI (by decide +kernel) (pa_cons vy (pa_cons (pe_bltn g m hv rfl hn hd) pa_nil)) (by decide) (by decide)
  refine ⟨_, pss_one (ps_ret (pe_and (cI (T := "int") (tn := "int") hT mT (by decide +kernel) (by decide) (by decide)) (pe_one (pe_not (cI (T := "bool") (tn := "bool") hB mB (by decide +kernel) (by decide) (by decide)))))), ?_⟩
  have s0 : (L2.start [y] [V.int z])[0]? = some (some (V.int z)) := rfl
  refine ⟨_, s0, .int z, .ty "int", .type "int", .type "int", true, rfl, .ty "int", .base (.int z), kit_of' (by decide) (by decide), true, rfl, ?_⟩
  rw [if_pos rfl]
  exact ⟨_, s0, .int z, .ty "bool", .type "int", .type "bool", false, rfl, .ty "bool", .base (.int z), kit_of' (by decide) (by decide), false, rfl, hq⟩
end
/-! ### the suites -/
section
variable {X : Cx} {i : Nat} {C S : Addr} {en n S0 isI : Str}
/-- what a suite needs -/
structure SuiT (X : Cx) (i : Nat) (C : Addr) (en : Str) : Prop where
  hi : X.N[i]? = some en
  vis : X.env.scope.names.lookup en = some .local
  d1 : (en == ("__debug__" : Str)) = false
  d2 : (en == ("__classdict__" : Str)) = false
  E : ExcD X.K C
/-- e.n -/
theorem su_fld {a : Addr} {oe : Obj} {dd : Addr} {pn : List (Addr × Obj)} {v : V} {p pos : Pos} (T : SuiT X i C en) (hno : PySem.W.findIn X.K (.ref C) n = some none) (hz : Zc (.ref C) (some dd) oe) (hf : ∃ vs, oe.data = .fields vs) :
    PE (X.suite a ((a, oe) :: pn)) (.Attribute (.Name en p) n pos) (fun σ H Q => σ[i]? = some (some (.ref a)) ∧ H dd = some (.xd [(n, v)]) ∧ Q v H) := by
  refine pe_weak (pe_xf (C := C) ⟨T.E.hg, T.E.hk, T.E.hs, T.E.hd⟩ hno hz hf (pe_var (X := X.suite a ((a, oe) :: pn)) T.hi (.inl T.vis) T.d1 T.d2) (by rfl)) fun σ H Q ⟨h1, h2, q⟩ => ?_
  exact ⟨_, h1, rfl, rfl, dd, _, v, rfl, h2, by simp [List.lookup], q⟩
/-- isinstance(e, S) -/
theorem su_is {a : Addr} {oe : Obj} {d : Option Addr} {pn : List (Addr × Obj)} {p1 p2 p3 p4 : Pos} {b : Bool} (T : SuiT X i C en) (gI : Gl X "isinstance") (mI : X.mg "isinstance" = none) {cv : Value} {c : V} (hc : PE (X.suite a ((a, oe) :: pn)) (.Name S0 p3) (tC c)) (hcv : ∀ u, RelV c u → u = cv)
    (hk : PySem.W.kitOne X.K (.ref C) cv = some b) (hz : Zc (.ref C) d oe) (hf : ∃ vs, oe.data = .fields vs) :
    PE (X.suite a ((a, oe) :: pn)) (.Call (.Name "isinstance" p1) [.Name en p2, .Name S0 p3] [] p4) (fun σ H Q => σ[i]? = some (some (.ref a)) ∧ (d = none ∨ ∃ dd fs, d = some dd ∧ H dd = some (.xd fs)) ∧ Q (.bl b) H) := by
  refine pe_weak (pe_callB (X := X.suite a ((a, oe) :: pn)) (call_isX T.E hz hf) gI mI (by decide +kernel) (pa_cons (pe_var (X := X.suite a ((a, oe) :: pn)) T.hi (.inl T.vis) T.d1 T.d2) (pa_cons hc pa_nil)) (by decide) (by decide)) fun σ H Q ⟨h1, h2, q⟩ => ?_
  exact ⟨_, h1, c, cv, b, rfl, hcv, hk, h2, q⟩
/-- is_integer(e.n) -/
theorem su_int {a : Addr} {oe : Obj} {dd : Addr} {pn : List (Addr × Obj)} {z : Int} {p1 p2 p3 p4 : Pos} {f : Addr} {fd : FuncData} {y : Str} {k : Nat} (T : SuiT X i C en) (hno : PySem.W.findIn X.K (.ref C) n = some none) (gF : Gl X isI) (dF : (isI == ("__debug__" : Str)) = false)
    (mF : X.mg isI = some (.ref f)) (kF : PySem.W.keepIn X.K (.ref f) = true) (bF : Binds X.K fd [y] []) (F : L2H.FnH X.prog X.w X.K X.mg X.base (L2N.CX X.prog X.w) k f fd [y] spIsInt) (hr : Room k X.A) (hz : L2N.Zn (.ref C) (some dd) oe) (hf : ∃ vs, oe.data = .fields vs) :
    PE (X.suite a ((a, oe) :: pn)) (.Call (.Name isI p1) [.Attribute (.Name en p2) n p3] [] p4) (fun σ H Q => σ[i]? = some (some (.ref a)) ∧ H dd = some (.xd [(n, .int z)]) ∧ Q (.bl true) H) := by
  have hot : L2H.HotC (X.suite a ((a, oe) :: pn)) := by
    obtain ⟨vs, hv⟩ := hf
    exact ⟨(a, oe), ⟨rfl, vs, hv, hz.2.2 vs hv⟩, List.mem_cons_self⟩
  have hr' : L2H.RoomH k (X.suite a ((a, oe) :: pn)).A := ⟨by have := hr.dp; exact this, by have := hr.un; exact this⟩
  refine pe_weak (L2H.pe_callH (X := X.suite a ((a, oe) :: pn)) (E := fun _ _ _ _ => False) F hr' hot gF mF kF bF (fun σ pins H s e s' _ c => ?_) (pa_cons (su_fld (v := .int z) T hno hz.zc hf) pa_nil) dF) fun σ H Q ⟨h1, h2, q⟩ => ⟨h1, h2, z, rfl, q⟩
  obtain ⟨_, _, _, _, _, _, _, _, _, _, _, _, zz⟩ := c
  exact zz.elim
end
end MP
/-! MX5: the suites as statements -/
namespace MP
open PySem PySem.Spec L2
/-- the field, an int, put behind a tag -/
def sdTup (n : Str) (tag : List Nat) : Option (Str × D) → Option D
  | some (f, .int z) => if f = n then some (.tup [.str tag, .int z]) else none
  | _ => none
def sdInt (n : Str) : Option (Str × D) → Option D
  | some (f, .int z) => if f = n then some (.int z) else none
  | _ => none
def sdNone (r : D) : Option (Str × D) → Option D
  | none => some r
  | _ => none
section
variable {X : Cx} {i : Nat} {C : Addr} {en n S0 isI : Str}
theorem su_pss {sd : Option (Str × D) → Option D} {a : Addr} {d : Option Addr} {pn : List (Addr × Obj)} {suite : List Stmt} (hi : X.N[i]? = some en)
    (h : ∀ (De : Ends) (σ : L2.St) (H : Hp) (μ : List Addr) (I : MH) (fl : Option (Str × D)) (r : D), σ[i]? = some (some (.ref a)) → Ok X.K X.mg μ I H → FldAt X.K μ I H d fl → sd fl = some r → (∀ μ' H' v, Ext μ I H μ' I H' → Ok X.K X.mg μ' I H' → RV X.K μ' I H' r v → De.rt v H') →
      ∃ t, PSs (X.suite a pn) suite t ∧ t De σ H) : PSs (X.suite a pn) suite (tSu X i sd a d) := by
  refine ⟨fun pins s σ H De I q => ?_⟩
  obtain ⟨h1, μ, J, fl, r, ok, hfl, hs, hq⟩ := q
  have hl : i < σ.length := by rw [I.len]; exact (List.getElem?_eq_some_iff.mp hi).1
  obtain ⟨t, ht, q⟩ := h De σ H μ J fl r (h1 hl) ok hfl hs hq
  exact ht.run pins s σ H De I q
/-- not is_integer(e.n) or not isinstance(e, S): not so -/
theorem su_test {a : Addr} {oe : Obj} {dd : Addr} {pn : List (Addr × Obj)} {z : Int} {p1 p2 p3 p4 p5 p6 p7 p8 p9 p10 p11 : Pos} {f S : Addr} {fd : FuncData} {y : Str} {k : Nat} (T : SuiT X i C en) (hno : PySem.W.findIn X.K (.ref C) n = some none) (gF : Gl X isI) (dF : (isI == ("__debug__" : Str)) = false)
    (mF : X.mg isI = some (.ref f)) (kF : PySem.W.keepIn X.K (.ref f) = true) (bF : Binds X.K fd [y] []) (F : L2H.FnH X.prog X.w X.K X.mg X.base (L2N.CX X.prog X.w) k f fd [y] spIsInt) (hr : Room k X.A)
    (gI : Gl X "isinstance") (mI : X.mg "isinstance" = none) (gS : Gl X S0) (mS : X.mg S0 = some (.ref S)) (dS : (S0 == ("__debug__" : Str)) = false) (hk : PySem.W.kitOne X.K (.ref C) (.ref S) = some true) (hz : L2N.Zn (.ref C) (some dd) oe) (hf : ∃ vs, oe.data = .fields vs) :
    PT (X.suite a ((a, oe) :: pn)) (.BoolOp .Or [.UnaryOp .Not (.Call (.Name isI p1) [.Attribute (.Name en p2) n p3] [] p4) p5, .UnaryOp .Not (.Call (.Name "isinstance" p6) [.Name en p7, .Name S0 p8] [] p9) p10] p11)
      (fun σ H Q => σ[i]? = some (some (.ref a)) ∧ H dd = some (.xd [(n, .int z)]) ∧ Q false H) := by
  have hS : PE (X.suite a ((a, oe) :: pn)) (.Name S0 p8) (tC (.ref S)) := pe_glob (X := X.suite a ((a, oe) :: pn)) gS mS rfl dS
  have h := (pw_or (pt_not (pos := p5) (pt_truth (su_int (z := z) (p1 := p1) (p2 := p2) (p3 := p3) (p4 := p4) (pn := pn) (a := a) T hno gF dF mF kF bF F hr hz hf) (plain_test rfl))) (pw_or1 (pt_not (pos := p10) (pt_truth (su_is (p1 := p6) (p2 := p7) (p3 := p8) (p4 := p9) T gI mI hS (fun u r => r) hk hz.zc hf) (plain_test rfl)))) (pos := p11)).pt
  refine pt_weak h fun σ H Q ⟨h1, h2, q⟩ => ?_
  exact ⟨h1, h2, true, rfl, h1, .inr ⟨dd, _, rfl, h2⟩, true, rfl, q⟩
theorem su_tupE {a : Addr} {oe : Obj} {dd : Addr} {pn : List (Addr × Obj)} {z : Int} {j m : Nat} {p2 p3 p4 pos : Pos} {g : Str} (T : SuiT X i C en) (hno : PySem.W.findIn X.K (.ref C) n = some none) (hz : L2N.Zn (.ref C) (some dd) oe) (hf : ∃ vs, oe.data = .fields vs) :
    PE (X.suite a ((a, oe) :: pn)) (.Tuple [.Constant (.str g) j p2, .Attribute (.Name en p3) n p4] m pos) (fun σ H Q => σ[i]? = some (some (.ref a)) ∧ H dd = some (.xd [(n, .int z)]) ∧ ∀ q, H q = none → Q (.ref q) (upd H q (.tup [.str g, .int z]))) := by
  refine pe_weak (pe_tup (pa_cons pe_str (pa_cons (su_fld (v := .int z) (a := a) (pn := pn) (p := p3) (pos := p4) T hno hz.zc hf) pa_nil))) fun σ H Q ⟨h1, h2, q⟩ => ?_
  exact ⟨h1, h2, by rw [sizeLine_eq]; exact (by decide : 2 ≤ 16777216), q⟩
theorem tup_fin {μ : List Addr} {I : MH} {H : Hp} {q : Addr} {g : Str} {tag : List Nat} {z : Int} {De : Ends} (ok : Ok X.K X.mg μ I H) (hg : toS tag = g) (hq : H q = none) (h : ∀ μ' H' v, Ext μ I H μ' I H' → Ok X.K X.mg μ' I H' → RV X.K μ' I H' (.tup [.str tag, .int z]) v → De.rt v H') : De.rt (.ref q) (upd H q (.tup [.str g, .int z])) :=
  h μ _ _ (Ext.same (same_upd hq)) (ok.same (same_upd hq)) (rv_tup (X := X) ok hq ⟨.str g, _, rfl, by show V.str g = V.str (toS tag); rw [hg], .int z, _, rfl, rfl, rfl⟩)
/-- if not is_integer(e.n) or not isinstance(e, S): return (..) / return ('g', e.n) -/
theorem su_A {p1 p2 p3 p4 p5 p6 p7 p8 p9 p10 p11 q1 q2 q3 q4 r1 r2 r3 r4 r5 : Pos} {j1 m1 j2 m2 : Nat} {g g' : Str} {tag : List Nat} {f S : Addr} {fd : FuncData} {y : Str} {k : Nat} (T : SuiT X i C en) (hno : PySem.W.findIn X.K (.ref C) n = some none) (gF : Gl X isI) (dF : (isI == ("__debug__" : Str)) = false)
    (mF : X.mg isI = some (.ref f)) (kF : PySem.W.keepIn X.K (.ref f) = true) (bF : Binds X.K fd [y] []) (F : L2H.FnH X.prog X.w X.K X.mg X.base (L2N.CX X.prog X.w) k f fd [y] spIsInt) (hr : Room k X.A)
    (gI : Gl X "isinstance") (mI : X.mg "isinstance" = none) (gS : Gl X S0) (mS : X.mg S0 = some (.ref S)) (dS : (S0 == ("__debug__" : Str)) = false) (hk : PySem.W.kitOne X.K (.ref C) (.ref S) = some true) (hg : toS tag = g) :
    SuiteOk X i C [.If (.BoolOp .Or [.UnaryOp .Not (.Call (.Name isI p1) [.Attribute (.Name en p2) n p3] [] p4) p5, .UnaryOp .Not (.Call (.Name "isinstance" p6) [.Name en p7, .Name S0 p8] [] p9) p10] p11) [.Return (some (.Tuple [.Constant (.str g') j1 q1] m1 q2)) q3] [] q4,
      .Return (some (.Tuple [.Constant (.str g) j2 r1, .Attribute (.Name en r2) n r3] m2 r4)) r5] (sdTup n tag) := by
  intro a oe d pn hz hf
  refine su_pss T.hi fun De σ H μ I fl r h1 ok hfl hs hq => ?_
  unfold sdTup at hs
  split at hs
  · rename_i n' z
    split at hs
    · rename_i e
      cases e
      cases hs
      obtain ⟨dd, v, rfl, ha, rv⟩ := hfl
      obtain rfl : v = .int z := rv
      refine ⟨_, pss_cons (ps_if (su_test (z := z) T hno gF dF mF kF bF F hr gI mI gS mS dS hk hz hf) (pss_one (ps_ret (pe_tup (pa_cons pe_str pa_nil)))) pss_nil) (pss_one (ps_ret (su_tupE (z := z) T hno hz hf))), ?_⟩
      refine ⟨h1, ha, ?_⟩
      exact iteF (show tNext _ σ H from ⟨h1, ha, fun q hq' => tup_fin ok hg hq' hq⟩)
    · cases hs
  · cases hs
/-- return ('g', e.n) -/
theorem su_B {r1 r2 r3 r4 r5 : Pos} {j2 m2 : Nat} {g : Str} {tag : List Nat} (T : SuiT X i C en) (hno : PySem.W.findIn X.K (.ref C) n = some none) (hg : toS tag = g) :
    SuiteOk X i C [.Return (some (.Tuple [.Constant (.str g) j2 r1, .Attribute (.Name en r2) n r3] m2 r4)) r5] (sdTup n tag) := by
  intro a oe d pn hz hf
  refine su_pss T.hi fun De σ H μ I fl r h1 ok hfl hs hq => ?_
  unfold sdTup at hs
  split at hs
  · rename_i n' z
    split at hs
    · rename_i e
      cases e
      cases hs
      obtain ⟨dd, v, rfl, ha, rv⟩ := hfl
      obtain rfl : v = .int z := rv
      exact ⟨_, pss_one (ps_ret (su_tupE (z := z) T hno hz hf)), h1, ha, fun q hq' => tup_fin ok hg hq' hq⟩
    · cases hs
  · cases hs
end
end MP
/-! MX6: words for the text parts -/
namespace MP
open PySem PySem.Spec L2
def tryB : List Stmt → List Stmt
  | [.Try body _ _ _ _] => body
  | _ => []
section
variable {P : Program} {w : World} {K : PySem.W.Frag} {mg : Str → Option Value} {base : Heap} {k : Nat}
/-- all the defs of a table -/
def AllF (P : Program) (w : World) (K : PySem.W.Frag) (mg : Str → Option Value) (base : Heap) (k : Nat) : List (Str × Nat × FF) → Prop
  | [] => True
  | q :: l => FnSim P w K mg base k q.1 q.2.1 q.2.2 ∧ AllF P w K mg base k l
theorem AllF.get : ∀ {l : List (Str × Nat × FF)}, AllF P w K mg base k l → ∀ x n F, l.lookup x = some (n, F) → FnSim P w K mg base k x n F
  | [], _, x, n, F, h => by cases h
  | q :: l, ⟨a, b⟩, x, n, F, h => by
    obtain ⟨y, m, G⟩ := q
    rw [List.lookup_cons] at h
    split at h
    · rename_i e
      cases h
      rw [eq_of_beq e]; exact a
    · exact AllF.get b x n F h
/-- a constant that the module holds -/
def CstOk (K : PySem.W.Frag) (mg : Str → Option Value) (x : Str) (d : D) : Prop := ∃ u v, mg x = some u ∧ RelV v u ∧ ∀ μ I H, RV K μ I H d v
def AllC (K : PySem.W.Frag) (mg : Str → Option Value) : List (Str × D) → Prop
  | [] => True
  | q :: l => CstOk K mg q.1 q.2 ∧ AllC K mg l
theorem AllC.get : ∀ {l : List (Str × D)}, AllC K mg l → ∀ x d, l.lookup x = some d → CstOk K mg x d
  | [], _, x, d, h => by cases h
  | q :: l, ⟨a, b⟩, x, d, h => by
    obtain ⟨y, m⟩ := q
    rw [List.lookup_cons] at h
    split at h
    · rename_i e
      cases h
      rw [eq_of_beq e]; exact a
    · exact AllC.get b x d h
def AllB (mg : Str → Option Value) : List Str → Prop
  | [] => True
  | x :: l => mg x = none ∧ AllB mg l
theorem AllB.get : ∀ {l : List Str}, AllB mg l → ∀ x, l.contains x = true → mg x = none
  | [], _, x, h => by cases h
  | y :: l, ⟨a, b⟩, x, h => by
    rw [List.contains_cons] at h
    rcases Bool.or_eq_true_iff.mp h with e | e
    · rw [eq_of_beq e]; exact a
    · exact AllB.get b x e
def AllX (P : Program) (w : World) (K : PySem.W.Frag) (mg : Str → Option Value) (base : Heap) (k : Nat) : List (Str × Option Str) → Prop
  | [] => True
  | q :: l => RaiseOk P w K mg base k q.1 q.2 ∧ AllX P w K mg base k l
theorem AllX.get : ∀ {l : List (Str × Option Str)}, AllX P w K mg base k l → ∀ x d, l.lookup x = some d → RaiseOk P w K mg base k x d
  | [], _, x, d, h => by cases h
  | q :: l, ⟨a, b⟩, x, d, h => by
    obtain ⟨y, m⟩ := q
    rw [List.lookup_cons] at h
    split at h
    · rename_i e
      cases h
      rw [eq_of_beq e]; exact a
    · exact AllX.get b x d h
def AllCl (K : PySem.W.Frag) (mg : Str → Option Value) : List (Str × List Str) → Prop
  | [] => True
  | q :: l => ClsOk K mg q.1 q.2 ∧ AllCl K mg l
theorem AllCl.get : ∀ {l : List (Str × List Str)}, AllCl K mg l → ∀ x d, l.lookup x = some d → ClsOk K mg x d
  | [], _, x, d, h => by cases h
  | q :: l, ⟨a, b⟩, x, d, h => by
    obtain ⟨y, m⟩ := q
    rw [List.lookup_cons] at h
    split at h
    · rename_i e
      cases h
      rw [eq_of_beq e]; exact a
    · exact AllCl.get b x d h
def AllMt (P : Program) (w : World) (K : PySem.W.Frag) (mg : Str → Option Value) (base : Heap) (k : Nat) : List ((Str × Str) × Nat × FF) → Prop
  | [] => True
  | q :: l => MthSim P w K mg base k q.1.1 q.1.2 q.2.1 q.2.2 ∧ AllMt P w K mg base k l
theorem AllMt.get : ∀ {l : List ((Str × Str) × Nat × FF)}, AllMt P w K mg base k l → ∀ c m n F, l.lookup (c, m) = some (n, F) → MthSim P w K mg base k c m n F
  | [], _, c, m, n, F, h => by cases h
  | q :: l, ⟨a, b⟩, c, m, n, F, h => by
    obtain ⟨⟨c', m'⟩, n', G⟩ := q
    rw [List.lookup_cons] at h
    split at h
    · rename_i e
      cases h
      have e' := eq_of_beq e
      cases e'
      exact a
    · exact AllMt.get b c m n F h
def AllMk (P : Program) (w : World) (K : PySem.W.Frag) (mg : Str → Option Value) (base : Heap) (k : Nat) : List (Str × Nat × FF) → Prop
  | [] => True
  | q :: l => (∃ j, j + 1 ≤ k ∧ MakeSim P w K mg base j q.1 q.2.1 q.2.2) ∧ AllMk P w K mg base k l
theorem AllMk.get : ∀ {l : List (Str × Nat × FF)}, AllMk P w K mg base k l → ∀ c n F, l.lookup c = some (n, F) → ∃ j, j + 1 ≤ k ∧ MakeSim P w K mg base j c n F
  | [], _, c, n, F, h => by cases h
  | q :: l, ⟨a, b⟩, c, n, F, h => by
    obtain ⟨y, m, G⟩ := q
    rw [List.lookup_cons] at h
    split at h
    · rename_i e
      cases h
      rw [eq_of_beq e]; exact a
    · exact AllMk.get b c n F h
def AllKd (K : PySem.W.Frag) (w : World) (mg : Str → Option Value) : List (Str × List (List Nat × D)) → Prop
  | [] => True
  | q :: l => KdOk K w mg q.1 q.2 ∧ AllKd K w mg l
theorem AllKd.get : ∀ {l : List (Str × List (List Nat × D))}, AllKd K w mg l → ∀ x d, l.lookup x = some d → KdOk K w mg x d
  | [], _, x, d, h => by cases h
  | q :: l, ⟨a, b⟩, x, d, h => by
    obtain ⟨y, m⟩ := q
    rw [List.lookup_cons] at h
    split at h
    · rename_i e
      cases h
      rw [eq_of_beq e]; exact a
    · exact AllKd.get b x d h
/-- all that a def's context leans on -/
structure AllT (P : Program) (w : World) (K : PySem.W.Frag) (mg : Str → Option Value) (base : Heap) (k : Nat) (C : CC) : Prop where
  f : AllF P w K mg base k C.fns
  c : AllC K mg C.cst
  b : AllB mg C.blt
  x : AllX P w K mg base k C.exs
  cl : AllCl K mg C.cls
  mt : AllMt P w K mg base k C.mth
  ma : AllMk P w K mg base k C.mks
  kd : AllKd K w mg C.kds
theorem AllT.mdl {C : CC} (a : AllT P w K mg base k C) : Mdl P w K mg base k C := ⟨a.f.get, a.c.get, a.b.get, a.cl.get, a.mt.get, a.ma.get, a.kd.get⟩
/-- what the written part tells of a def -/
def FunT (K : PySem.W.Frag) (mg : Str → Option Value) (x qual : Str) (st : Stmt) (ps : List Str) : Prop := ∃ f fd, mg x = some (.ref f) ∧ PySem.W.keepIn K (.ref f) = true ∧ Fun K x qual st f fd ∧ Binds K fd ps []
theorem sim_mk {x qual : Str} {st : Stmt} {ps N : List Str} {C : CC} {body : SF} {m n : Nat} (T : FunT K mg x qual st ps) (ho : defOk N ps (defScope st) = true) (hC : C.sc = defScope st ∧ C.N = N) (hb : cSs n C (defBody st) = some body) (hm : ps.length = m ∧ N.length = m')
    (A : AllT P w K mg base k C) (hn : C.tab = none := by rfl) : FnSim P w K mg base (k + 1) x m (runDef m' body) := by
  obtain ⟨f, fd, h1, h2, h3, h4⟩ := T
  obtain ⟨rfl, rfl⟩ := hm
  exact ⟨f, fd, ps, h1, h2, h4, fn_sim h3 ho hC hb A.mdl A.x.get hn⟩
/-- what the written part tells of a method; of an __init__ -/
def MthT (K : PySem.W.Frag) (mg : Str → Option Value) (c x qual : Str) (st : Stmt) (ps : List Str) : Prop := ∃ C f fd, mg c = some (.ref C) ∧ Cls K C ∧ Meth K C x f ∧ Fun K x qual st f fd ∧ Binds K fd ps []
def MkT (K : PySem.W.Frag) (mg : Str → Option Value) (c qual : Str) (st : Stmt) (ps : List Str) : Prop := ∃ C f fd, mg c = some (.ref C) ∧ Mk K C f ∧ Fun K "__init__" qual st f fd ∧ Binds K fd ps []
theorem mth_mk {c x qual : Str} {st : Stmt} {ps N : List Str} {C : CC} {body : SF} {m n : Nat} (T : MthT K mg c x qual st ps) (ho : defOk N ps (defScope st) = true) (hC : C.sc = defScope st ∧ C.N = N) (hb : cSs n C (defBody st) = some body) (hm : ps.length = m ∧ N.length = m')
    (A : AllT P w K mg base k C) (hn : C.tab = none := by rfl) : MthSim P w K mg base (k + 1) c x m (runDef m' body) := by
  obtain ⟨Ca, f, fd, h1, h2, h3, h4, h5⟩ := T
  obtain ⟨rfl, rfl⟩ := hm
  exact ⟨Ca, f, fd, ps, h1, h2, h3, h5, fn_sim h4 ho hC hb A.mdl A.x.get hn⟩
theorem make_mk {c qual : Str} {st : Stmt} {ps N : List Str} {C : CC} {body : SF} {m n : Nat} (T : MkT K mg c qual st ps) (ho : defOk N ps (defScope st) = true) (hC : C.sc = defScope st ∧ C.N = N) (hb : cSs n C (defBody st) = some body) (hm : ps.length = m ∧ N.length = m')
    (A : AllT P w K mg base k C) (hn : C.tab = none := by rfl) : MakeSim P w K mg base (k + 1) c m (runDef m' body) := by
  obtain ⟨Ca, f, fd, h1, h2, h3, h4⟩ := T
  obtain ⟨rfl, rfl⟩ := hm
  exact ⟨Ca, f, fd, ps, h1, h2, h4, fn_sim h3 ho hC hb A.mdl A.x.get hn⟩
/-- defs that hold generator expressions: their tables -/
def TabT (K : PySem.W.Frag) (mg : Str → Option Value) (base : Heap) (cls m : Str) (f : Addr) (fd : FuncData) : Prop := DefAt K mg cls m f ∧ ∃ c T, fd.code = .ref c ∧ GxR.TabB base mg c T ∧ tabIn K fd.code = some T
def FunTT (K : PySem.W.Frag) (mg : Str → Option Value) (base : Heap) (x qual : Str) (st : Stmt) (ps : List Str) : Prop := ∃ f fd, mg x = some (.ref f) ∧ PySem.W.keepIn K (.ref f) = true ∧ Fun K x qual st f fd ∧ Binds K fd ps [] ∧ TabT K mg base "" x f fd
def MthTT (K : PySem.W.Frag) (mg : Str → Option Value) (base : Heap) (c x qual : Str) (st : Stmt) (ps : List Str) : Prop := ∃ C f fd, mg c = some (.ref C) ∧ Cls K C ∧ Meth K C x f ∧ Fun K x qual st f fd ∧ Binds K fd ps [] ∧ TabT K mg base c x f fd
theorem sim_mkT {x qual : Str} {st : Stmt} {ps N : List Str} {C : CC} {body : SF} {m n : Nat} (T : FunTT K mg base x qual st ps) (ho : defOk N ps (defScope st) = true) (hC : C.sc = defScope st ∧ C.N = N) (hb : cSs n C (defBody st) = some body) (hm : ps.length = m ∧ N.length = m')
    (A : AllT P w K mg base k C) (hn : C.tab = some (("" : Str), x) := by rfl) : FnSim P w K mg base (k + 2) x m (runDef m' body) := by
  obtain ⟨f, fd, h1, h2, h3, h4, h5⟩ := T
  obtain ⟨rfl, rfl⟩ := hm
  exact ⟨f, fd, ps, h1, h2, h4, fn_simT h3 ho hC hb A.mdl A.x.get fun q hq => by rw [hn] at hq; cases hq; exact h5⟩
theorem mth_mkT {c x qual : Str} {st : Stmt} {ps N : List Str} {C : CC} {body : SF} {m n : Nat} (T : MthTT K mg base c x qual st ps) (ho : defOk N ps (defScope st) = true) (hC : C.sc = defScope st ∧ C.N = N) (hb : cSs n C (defBody st) = some body) (hm : ps.length = m ∧ N.length = m')
    (A : AllT P w K mg base k C) (hn : C.tab = some (c, x) := by rfl) : MthSim P w K mg base (k + 2) c x m (runDef m' body) := by
  obtain ⟨Ca, f, fd, h1, h2, h3, h4, h5, h6⟩ := T
  obtain ⟨rfl, rfl⟩ := hm
  exact ⟨Ca, f, fd, ps, h1, h2, h3, h5, fn_simT h4 ho hC hb A.mdl A.x.get fun q hq => by rw [hn] at hq; cases hq; exact h6⟩
/-! a def that is not run -/
theorem fn_stuck {x : Str} {st : Stmt} {qual : Str} {ps : List Str} {m : Nat} (T : FunT K mg x qual st ps) (hm : ps.length = m) : FnSim P w K mg base k x m (fun _ _ => .stuck) := by
  obtain ⟨f, fd, h1, h2, h3, h4⟩ := T
  exact ⟨f, fd, ps, h1, h2, h4, ⟨fun vs H Q E z => by rw [z.1, hm], fun A outer s H args us vs Q E _ _ _ _ z => by
    obtain ⟨_, μ, I, ds, _, _, p⟩ := z
    exact p.elim⟩⟩
theorem mth_stuck {c x : Str} {st : Stmt} {qual : Str} {ps : List Str} {m : Nat} (T : MthT K mg c x qual st ps) (hm : ps.length = m) : MthSim P w K mg base k c x m (fun _ _ => .stuck) := by
  obtain ⟨C, f, fd, h1, h2, h3, h4, h5⟩ := T
  exact ⟨C, f, fd, ps, h1, h2, h3, h5, ⟨fun vs H Q E z => by rw [z.1, hm], fun A outer s H args us vs Q E _ _ _ _ z => by
    obtain ⟨_, μ, I, ds, _, _, p⟩ := z
    exact p.elim⟩⟩
/-- the i-th member of a class's text -/
def mbr (st : Stmt) (i : Nat) : Stmt := match st with
  | .ClassDef _ _ _ body _ _ _ _ _ _ _ => body.getD i (.Pass ⟨0, 0, 0, 0⟩)
  | _ => .Pass ⟨0, 0, 0, 0⟩
end
end MP
/-! MX7: defs with try; the head -/
namespace MP
open PySem PySem.Spec L2
section
variable {P : Program} {w : World} {K : PySem.W.Frag} {mg : Str → Option Value} {base : Heap} {k : Nat}
theorem sim_try {xf qual x en : Str} {st : Stmt} {ps N : List Str} {C : CC} {f : SF} {m m' n i : Nat} {Ca : Addr} {b₀ : Stmt} {body suite : List Stmt} {np pos pos' : Pos} {sd : Option (Str × D) → Option D} (T : FunT K mg xf qual st ps) (ho : defOk N ps (defScope st) = true) (hC : C.sc = defScope st ∧ C.N = N)
    (hB : defBody st = [.Try body [.ExceptHandler (some (.Name x np)) (some en) (b₀ :: suite) pos'] [] [] pos]) (hb : cSs n C (tryB (defBody st)) = some f) (hm : ps.length = m ∧ N.length = m')
    (A : AllT P w K mg base k C)
    (hi : N[i]? = some en) (hln : (defScope st).names.lookup en = some .local) (hg : (defScope st).names.lookup x = some .globalImplicit) (hd : (x == ("__debug__" : Str)) = false) (gC : mg x = some (.ref Ca)) (hex : PySem.W.exmOne K (.ref Ca) (.ref Ca) = some true)
    (hn : C.tab = none) (hsu : ∀ (X : Cx), X.prog = P → X.w = w → X.K = K → X.mg = mg → X.base = base → X.env.scope = defScope st → X.N = N → Room k X.A → SuiteOk X i Ca (b₀ :: suite) sd) :
    FnSim P w K mg base (k + 1) xf m (runDef m' (seqS (tryS x sd f) nxS)) := by
  obtain ⟨fa, fd, h1, h2, h3, h4⟩ := T
  obtain ⟨rfl, rfl⟩ := hm
  rw [hB] at hb
  refine ⟨fa, fd, ps, h1, h2, h4, fn_simG h3 ho hC A.mdl A.x.get 0 (fun q hq => by rw [hn] at hq; cases hq) fun X W M D0 e1 e2 e3 e4 e5 => ?_⟩
  rw [hB]
  have hsc : X.env.scope = defScope st := M.sc.trans hC.1
  have hN : X.N = N := M.N.trans hC.2
  refine ss_cons (ss_try D0 (by rw [hN, ← hC.2]; exact M.nd) (by rw [hN]; exact hi) (by show X.env.scope.names.lookup en = _; rw [hsc]; exact hln) ⟨by show X.env.scope.names.lookup x = _; rw [hsc]; exact hg, hd, .inl (by rw [e4]; exact gC)⟩ (by rw [e4]; exact gC) (by rw [e3]; exact hex) M.tk
    (fun W' pn xe tk own => (cSS_ok n).2 (X.tr pn xe) C W' k { sc := M.sc, N := M.N, nd := M.nd, calm := M.calm, room := M.room, tk := tk, isDef := M.isDef, mdl := M.mdl, tab := M.tab, flat := trivial, own := own, raises := M.raises } _ _ hb) (hsu X e1 e2 e3 e4 e5 hsc hN M.room)) ss_nil
/-! ### the head's facts -/
theorem fnt_mk {x qual : Str} {st : Stmt} {ps : List Str} {h : Heap} {f : Addr} {oc : Value} {od an : Option Addr} {osl : Array (Option Value)} {kV doc pm cdv ct : Value} (X : K.In h) (G : h.Ns mainGlobals mg) (a : PySem.W.nsIn K mainGlobals x = some (some (.ref f)))
    (l : K.lookup f = some ⟨oc, od, .func (PySem.W.fnOf x qual (defArgs st) (defBody st) (defScope st) .none kV doc pm an cdv ct), osl⟩) (c : PySem.W.codeIn K cdv qual = true) (k : PySem.W.keepIn K (.ref f) = true)
    (hb : ∀ (kV doc pm : Value) (an : Option Addr) (cdv ct : Value) (us : List Value), us.length = ps.length → bindArgs (PySem.W.fnOf x qual (defArgs st) (defBody st) (defScope st) .none kV doc pm an cdv ct) ⟨us, []⟩ = pure (ps.zip us)) : FunT K mg x qual st ps :=
  ⟨f, _, PySem.W.mg_of X G a, k, fun_mk l c k, (fun_mk l c k).binds hb⟩
theorem cst_str {x s : Str} {t : Tok} {d : List Nat} {h : Heap} (X : K.In h) (G : h.Ns mainGlobals mg) (a : PySem.W.nsIn K mainGlobals x = some (some (.str s t))) (e : toS d = s) : CstOk K mg x (.str d) :=
  ⟨_, .str s, PySem.W.mg_of X G a, ⟨t, rfl⟩, fun μ I H => by show V.str s = V.str (toS d); rw [e]⟩
theorem cst_int {x : Str} {z : Int} {t : Tok} {h : Heap} (X : K.In h) (G : h.Ns mainGlobals mg) (a : PySem.W.nsIn K mainGlobals x = some (some (.int z t))) : CstOk K mg x (.int z) :=
  ⟨_, .int z, PySem.W.mg_of X G a, ⟨t, rfl⟩, fun μ I H => rfl⟩
def AllNo (K : PySem.W.Frag) (C : Addr) : List Str → Prop
  | [] => True
  | n :: l => NoAttr K C n ∧ AllNo K C l
theorem AllNo.get {C : Addr} : ∀ {l : List Str}, AllNo K C l → ∀ n, l.contains n = true → NoAttr K C n
  | [], _, n, h => by cases h
  | y :: l, ⟨a, b⟩, n, h => by
    rw [List.contains_cons] at h
    rcases Bool.or_eq_true_iff.mp h with e | e
    · rw [eq_of_beq e]; exact a
    · exact AllNo.get b n e
theorem cls_mk {c : Str} {C : Addr} {as : List Str} {h : Heap} (X : K.In h) (G : h.Ns mainGlobals mg) (a : PySem.W.nsIn K mainGlobals c = some (some (.ref C))) (k : Cls K C) (no : AllNo K C as) : ClsOk K mg c as :=
  ⟨C, PySem.W.mg_of X G a, k, fun n z => AllNo.get no n z⟩
theorem mtt_mk {c x qual : Str} {st : Stmt} {ps : List Str} {h : Heap} {C f : Addr} {oc : Value} {od an : Option Addr} {osl : Array (Option Value)} {kV doc pm cdv ct : Value} (X : K.In h) (G : h.Ns mainGlobals mg) (a : PySem.W.nsIn K mainGlobals c = some (some (.ref C))) (cl : Cls K C)
    (i : PySem.W.findIn K (.ref C) x = some (some (.ref f))) (l : K.lookup f = some ⟨oc, od, .func (PySem.W.fnOf x qual (defArgs st) (defBody st) (defScope st) .none kV doc pm an cdv ct), osl⟩) (c' : PySem.W.codeIn K cdv qual = true) (k : PySem.W.keepIn K (.ref f) = true) (fn : PySem.W.isFn K (.ref f) = true)
    (hb : ∀ (kV doc pm : Value) (an : Option Addr) (cdv ct : Value) (us : List Value), us.length = ps.length → bindArgs (PySem.W.fnOf x qual (defArgs st) (defBody st) (defScope st) .none kV doc pm an cdv ct) ⟨us, []⟩ = pure (ps.zip us)) : MthT K mg c x qual st ps :=
  ⟨C, f, _, PySem.W.mg_of X G a, cl, ⟨i, fn, k⟩, fun_mk l c' k, (fun_mk l c' k).binds hb⟩
theorem mkt_mk {c qual : Str} {st : Stmt} {ps : List Str} {h : Heap} {C f : Addr} {oc : Value} {od an : Option Addr} {osl : Array (Option Value)} {kV doc pm cdv ct : Value} (X : K.In h) (G : h.Ns mainGlobals mg) (a : PySem.W.nsIn K mainGlobals c = some (some (.ref C)))
    (m : PySem.W.makesIn K C = true) (kc : PySem.W.keepIn K (.ref C) = true)
    (i : PySem.W.findIn K (.ref C) "__init__" = some (some (.ref f))) (l : K.lookup f = some ⟨oc, od, .func (PySem.W.fnOf "__init__" qual (defArgs st) (defBody st) (defScope st) .none kV doc pm an cdv ct), osl⟩) (c' : PySem.W.codeIn K cdv qual = true) (k : PySem.W.keepIn K (.ref f) = true) (fn : PySem.W.isFn K (.ref f) = true)
    (hb : ∀ (kV doc pm : Value) (an : Option Addr) (cdv ct : Value) (us : List Value), us.length = ps.length → bindArgs (PySem.W.fnOf "__init__" qual (defArgs st) (defBody st) (defScope st) .none kV doc pm an cdv ct) ⟨us, []⟩ = pure (ps.zip us)) : MkT K mg c qual st ps :=
  ⟨C, f, _, PySem.W.mg_of X G a, ⟨m, i, fn, kc⟩, fun_mk l c' k, (fun_mk l c' k).binds hb⟩
/-! ### the law -/
theorem FnOk.weak {CX : CXT} {f : Addr} {fd : FuncData} {ps : List Str} {sp sp' : Sp} (F : FnOk P w K mg base CX k f fd ps sp) (h : ∀ vs H Q E, sp' vs H Q E → sp vs H Q E) : FnOk P w K mg base CX k f fd ps sp' :=
  ⟨fun vs H Q E z => F.len vs H Q E (h _ _ _ _ z), fun A outer s H args us vs Q E hr e b v z => F.run A outer s H args us vs Q E hr e b v (h _ _ _ _ z)⟩
/-- what law(script) promises -/
def spLaw (K : PySem.W.Frag) : Sp := fun vs H Q _ => ∃ (a : Addr) (ns : List Int), vs = [.ref a] ∧ ScrAt K H a (ns.map V.int) ∧ ns.length ≤ 63 ∧ ∀ H', Q (.bl true) H'
theorem scr_at {H : Hp} {a : Addr} {xs : List V} (o : Only H) (h : SqL K H a xs) : ScrAt K H a xs := by
  rcases h with (h | ⟨ob, h⟩) | h
  · rcases o a with z | ⟨ob, ys, z⟩
    · rw [z] at h; cases h
    · rw [z] at h; cases h
  · exact .inl ⟨ob, h⟩
  · exact .inr h
theorem ok_nil {K : PySem.W.Frag} {mg : Str → Option Value} {H : Hp} : Ok K mg [] [] H := ⟨rfl, fun n m a c c' h => by simp at h, fun n c a h => by simp at h⟩
theorem sp_law {F : FF} (h : ∀ ns : List Int, ns.length ≤ 63 → ∃ I', F [.scr ns] [] = .ok (.bl true) I') {vs : List V} {H : Hp} {Q : VK} {E : XK} (z : spLaw K vs H Q E) : spSim K mg 1 F vs H Q E := by
  obtain ⟨a, ns, rfl, hs, hl, hq⟩ := z
  obtain ⟨I', e⟩ := h ns hl
  refine ⟨rfl, [], [], [.scr ns], ok_nil, ⟨.ref a, [], rfl, ⟨a, rfl, .inl hs⟩, rfl⟩, ?_⟩
  rw [e]
  intro μ' H' _ _ v rv
  obtain rfl : v = .bl true := rv
  exact hq H'
theorem cxN_false {w : World} {P : Program} {H : Hp} {s : Shared} {e : Value} {s' : Shared} {outer : List Env} (z : L2N.CX P w outer H s (fun _ _ _ => False) e s') : False := by
  obtain ⟨_, _, _, _, _, _, _, _, _, _, _, _, zz⟩ := z
  exact zz
/-- the law's def: where it stands, how its argument binds -/
theorem law_mk {P : Program} {w : World} {fa : Addr} {x p : Str} {F : FF} {st : Stmt} {h : Heap} {f : Addr} {oc : Value} {od an : Option Addr} {osl : Array (Option Value)} {kV doc pm cdv ct : Value} (X : K.In h) (G : h.Ns mainGlobals mg) (hfa : mg x = some (.ref fa)) (a : PySem.W.nsIn K mainGlobals x = some (some (.ref f)))
    (l : K.lookup f = some ⟨oc, od, .func (PySem.W.fnOf x x (defArgs st) (defBody st) (defScope st) .none kV doc pm an cdv ct), osl⟩)
    (hb : ∀ (s : Shared) (u : Value), BindsTo s (PySem.W.fnOf x x (defArgs st) (defBody st) (defScope st) .none kV doc pm an cdv ct) ⟨[u], []⟩ [(p, u)])
    (hl : ∀ ns : List Int, ns.length ≤ 63 → ∃ I', F [.scr ns] [] = .ok (.bl true) I')
    (S : ∀ base : Heap, ∃ fd, FnOk P w K mg base (L2N.CX P w) k f fd [p] (spSim K mg 1 F) ∧ fd = PySem.W.fnOf x x (defArgs st) (defBody st) (defScope st) .none kV doc pm an cdv ct) :
    ∃ fd : FuncData, (∀ (s : Shared) (v : Value), BindsTo s fd ⟨[v], []⟩ [(p, v)]) ∧ ∀ base : Heap, K.In base → base.Ns mainGlobals mg → FnOk P w K mg base (L2N.CX P w) k fa fd [p] (spLaw K) := by
  have e := hfa.symm.trans (PySem.W.mg_of X G a)
  cases e
  refine ⟨_, hb, fun base _ _ => ?_⟩
  obtain ⟨fd, ok, e⟩ := S base
  subst e
  exact FnOk.weak ok fun vs H Q E z => sp_law hl z
end
end MP
/-! MX8: the written dicts at the head -/
namespace MP
open PySem PySem.Spec L2
section
variable {w : World} {K : PySem.W.Frag} {mg : Str → Option Value}
/-- a written value: a text, a number, nothing, or a tuple of such in the module -/
def KdV (K : PySem.W.Frag) (x : D) (u : Value) : Prop := ∃ v, RelV v u ∧ ∀ μ I H, RV K μ I H x v
def KdE (K : PySem.W.Frag) : List (List Nat × D) → List DictEntry → Prop
  | [], [] => True
  | q :: tb, e :: es => (∃ t, e.key = .str (toS q.1) t) ∧ KdV K q.2 e.val ∧ KdE K tb es
  | _, _ => False
theorem kd_find {z : List Nat} : ∀ {tb : List (List Nat × D)} {es : List DictEntry}, KdE K tb es →
    match tb.lookup z with
    | some x => ∃ e, es.find? (·.key.isStr (toS z)) = some e ∧ KdV K x e.val
    | none => es.find? (·.key.isStr (toS z)) = none
  | [], [], _ => rfl
  | q :: tb, e :: es, ⟨⟨t, ht⟩, hv, hr⟩ => by
    have ih := kd_find (z := z) hr
    obtain ⟨y, x⟩ := q
    by_cases hz : z = y
    · subst hz
      have e1 : e.key.isStr (toS z) = true := by rw [ht]; simp [Value.isStr]
      simp only [List.lookup_cons, beq_self_eq_true, List.find?_cons, e1]
      exact ⟨e, rfl, hv⟩
    · have e1 : e.key.isStr (toS z) = false := by
        rw [ht]
        have : toS y ≠ toS z := fun h => hz (toS_inj h).symm
        simpa [Value.isStr] using this
      have e2 : (z == y) = false := by simpa using hz
      simp only [List.lookup_cons, e2, List.find?_cons, e1]
      exact ih
theorem kd_mk {T : Str} {tb : List (List Nat × D)} {d : Addr} {es : List DictEntry} {n : Nat} {h : Heap} (X : K.In h) (G : h.Ns mainGlobals mg) (a : PySem.W.nsIn K mainGlobals T = some (some (.ref d)))
    (l : K.lookup d = some ⟨.type "dict", none, .dict ⟨es⟩ n, #[]⟩) (k : PySem.W.KeysLit w.params es) (lo : (d == sysModules) = false) (r : KdE K tb es) : KdOk K w mg T tb := by
  refine ⟨d, ⟨es⟩, n, PySem.W.mg_of X G a, ⟨l, k, lo⟩, fun z => ?_⟩
  have hf := kd_find (z := z) r
  have nr : es.any (·.refKey) = false := by
    rw [List.any_eq_false]
    intro e he
    obtain ⟨x, t, e1, _⟩ := k.all e he
    simp [DictEntry.refKey, e1]
  unfold PySem.W.nsIn
  rw [l]
  dsimp only
  cases hz : tb.lookup z with
  | some x =>
    rw [hz] at hf
    obtain ⟨e, he, v, h1, h2⟩ := hf
    dsimp only
    rw [he]
    exact ⟨e.val, v, rfl, h1, h2⟩
  | none =>
    rw [hz] at hf
    dsimp only at hf ⊢
    rw [hf, nr]; rfl
/-- the tuple of the module -/
theorem kdv_tup {xs : List D} {vs : List V} {us : List Value} {a : Addr} {od : Option Addr} {n : Nat} {sl : Array (Option Value)} (l : K.lookup a = some ⟨.type "tuple", od, .seq ⟨us⟩ n, sl⟩) (hs : us.length ≤ sizeLine) (hv : Vals vs us) (hx : ∀ μ I H, RVs K μ I H xs vs) : KdV K (.tup xs) (.ref a) :=
  ⟨.ref a, rfl, fun μ I H => ⟨a, vs, rfl, .inr ⟨_, _, _, l, rfl, rfl, hs, hv⟩, hx μ I H⟩⟩
end
end MP
/-! MXT: the head with tables of code objects; one more suite -/
namespace MP
open PySem PySem.Spec PyProof.Rows L2
section
variable {X : Cx} {i : Nat} {C : Addr} {en S0 : Str}
/-- if not isinstance(e, S) or not isinstance(e, ValueError): return (..) / return None -/
theorem su_C {p1 p2 p3 p4 p5 p6 p7 p8 p9 p10 p11 q1 q2 q3 q4 r1 r2 : Pos} {j1 m1 j2 : Nat} {g' : Str} {S : Addr} (T : SuiT X i C en)
    (gI : Gl X "isinstance") (mI : X.mg "isinstance" = none) (gS : Gl X S0) (mS : X.mg S0 = some (.ref S)) (dS : (S0 == ("__debug__" : Str)) = false) (hk : PySem.W.kitOne X.K (.ref C) (.ref S) = some true)
    (gV : Gl X "ValueError") (mV : X.mg "ValueError" = none) (hv : PySem.W.kitOne X.K (.ref C) (.type "ValueError") = some true) :
    SuiteOk X i C [.If (.BoolOp .Or [.UnaryOp .Not (.Call (.Name "isinstance" p1) [.Name en p2, .Name S0 p3] [] p4) p5, .UnaryOp .Not (.Call (.Name "isinstance" p6) [.Name en p7, .Name "ValueError" p8] [] p9) p10] p11) [.Return (some (.Tuple [.Constant (.str g') j1 q1] m1 q2)) q3] [] q4,
      .Return (some (.Constant .none j2 r1)) r2] (sdNone .non) := by
  intro a oe d pn hz hf
  refine su_pss T.hi fun De σ H μ I fl r h1 ok hfl hs hq => ?_
  unfold sdNone at hs
  split at hs
  · cases hs
    obtain rfl : d = none := hfl
    have hS : PE (X.suite a ((a, oe) :: pn)) (.Name S0 p3) (tC (.ref S)) := pe_glob (X := X.suite a ((a, oe) :: pn)) gS mS rfl dS
    have hV : PE (X.suite a ((a, oe) :: pn)) (.Name "ValueError" p8) (tC (.ty "ValueError")) := pe_bltn (X := X.suite a ((a, oe) :: pn)) gV mV (by decide +kernel) rfl
    have h := (pw_or (pt_not (pos := p5) (pt_truth (su_is (p1 := p1) (p2 := p2) (p3 := p3) (p4 := p4) T gI mI hS (fun u r => r) hk hz.zc hf) (plain_test rfl))) (pw_or1 (pt_not (pos := p10) (pt_truth (su_is (p1 := p6) (p2 := p7) (p3 := p8) (p4 := p9) T gI mI hV (fun u r => r) hv hz.zc hf) (plain_test rfl)))) (pos := p11)).pt
    refine ⟨_, pss_cons (ps_if h (pss_one (ps_ret (pe_tup (pa_cons pe_str pa_nil)))) pss_nil) (pss_one (ps_ret pe_non)), ?_⟩
    refine ⟨h1, .inl rfl, true, rfl, h1, .inl rfl, true, rfl, ?_⟩
    exact iteF (show tNext _ σ H from hq μ H .non Ext.refl ok rfl)
  · cases hs
end
section
variable {P : Program} {w : World} {K : PySem.W.Frag} {mg : Str → Option Value} {base : Heap} {k : Nat}
/-- a def's code object and its table, as the written part has them -/
def TabK (K : PySem.W.Frag) (mg : Str → Option Value) (t : Str × Addr × Addr) : Prop :=
  (∃ f oc od fd sl, mg t.1 = some (.ref f) ∧ K.lookup f = some ⟨oc, od, .func fd, sl⟩ ∧ fd.code = .ref t.2.1 ∧ tabIn K fd.code = some t.2.2) ∧ K.lookup t.2.2 = none
def TabX (K : PySem.W.Frag) (mg : Str → Option Value) (base : Heap) (x : Str) : Prop := ∃ c T, TabK K mg (x, c, T) ∧ GxR.TabB base mg c T
theorem tab_mk {x : Str} {f c T : Addr} {oc : Value} {od : Option Addr} {fd : FuncData} {sl sl' : Array (Option Value)} {e : Value} {dd : Option Addr} {vs : Array Value} {h : Heap} (X : K.In h) (G : h.Ns mainGlobals mg) (a : PySem.W.nsIn K mainGlobals x = some (some (.ref f)))
    (l : K.lookup f = some ⟨oc, od, .func fd, sl⟩) (hc : fd.code = .ref c) (lc : K.lookup c = some ⟨e, dd, .fields vs, sl'⟩) (hv : vs[11]? = some (.ref T)) (hT : K.lookup T = none) : TabK K mg (x, c, T) :=
  ⟨⟨f, oc, od, fd, sl, PySem.W.mg_of X G a, l, hc, by show tabIn K fd.code = some T; rw [hc]; simp only [tabIn, lc, hv]⟩, hT⟩
theorem fntt {x qual : Str} {st : Stmt} {ps : List Str} (T : FunT K mg x qual st ps) (B : TabX K mg base x) : FunTT K mg base x qual st ps := by
  obtain ⟨f, fd, h1, h2, h3, h4⟩ := T
  obtain ⟨c, t, ⟨⟨f', oc, od, fd', sl, g1, g2, g3, g4⟩, g5⟩, TB⟩ := B
  have e : f = f' := by
    have := h1.symm.trans g1
    cases this; rfl
  subst e
  obtain ⟨oc2, od2, kV, doc, pm, an, cdv, ct, osl, e2, lk, _⟩ := h3.ex
  rw [g2] at lk
  cases lk
  exact ⟨f, _, h1, h2, h3, h4, .inl ⟨rfl, h1⟩, c, t, g3, TB, g4⟩
def tabs0 (ts : List (Str × Addr × Addr)) : MH := ts.map fun t => .tab "" t.1
/-- what law(script) promises, where tables are used -/
def spLawT (K : PySem.W.Frag) (mg : Str → Option Value) (ts : List (Str × Addr × Addr)) : Sp := fun vs H Q _ => ∃ (a : Addr) (ns : List Int), vs = [.ref a] ∧ Ok K mg (ts.map (·.2.2)) (tabs0 ts) H ∧ ScrR K (Live (ts.map (·.2.2)) (tabs0 ts)) H a (ns.map V.int) ∧ ns.length ≤ 63 ∧ ∀ H', Q (.bl true) H'
theorem sp_lawT {F : FF} {ts : List (Str × Addr × Addr)} (h : ∀ ns : List Int, ns.length ≤ 63 → ∃ I', F [.scr ns] (tabs0 ts) = .ok (.bl true) I') {vs : List V} {H : Hp} {Q : VK} {E : XK} (z : spLawT K mg ts vs H Q E) : spSim K mg 1 F vs H Q E := by
  obtain ⟨a, ns, rfl, ok, hs, hl, hq⟩ := z
  obtain ⟨I', e⟩ := h ns hl
  refine ⟨rfl, _, _, [.scr ns], ok, ⟨.ref a, [], rfl, ⟨a, rfl, hs⟩, rfl⟩, ?_⟩
  rw [e]
  intro μ' H' _ _ v rv
  obtain rfl : v = .bl true := rv
  exact hq H'
theorem ok_tabs {ts : List (Str × Addr × Addr)} {H : Hp} (hK : ∀ t ∈ ts, TabK K mg t) (nd : (ts.map (·.2.2)).Nodup) (hH : ∀ t ∈ ts, H t.2.2 = some (.tbl #[])) : Ok K mg (ts.map (·.2.2)) (tabs0 ts) H := by
  refine ⟨by simp [tabs0], fun n m a c c' h1 h2 _ _ _ _ => ?_, fun n c a h1 h2 => ?_⟩
  · obtain ⟨l1, e1⟩ := List.getElem?_eq_some_iff.mp h1
    obtain ⟨l2, e2⟩ := List.getElem?_eq_some_iff.mp h2
    have nd' := List.pairwise_iff_getElem.mp nd
    rcases Nat.lt_trichotomy n m with g | g | g
    · exact absurd (e1.trans e2.symm) (nd' n m l1 l2 g)
    · exact g
    · exact absurd (e2.trans e1.symm) (nd' m n l2 l1 g)
  · unfold tabs0 at h1
    rw [List.getElem?_map] at h1 h2
    cases ht : ts[n]? with
    | none => rw [ht] at h1; cases h1
    | some t =>
      rw [ht] at h1 h2
      cases h1
      cases h2
      have hm := List.mem_of_getElem? ht
      obtain ⟨⟨f, oc, od, fd, sl, g1, g2, g3, g4⟩, g5⟩ := hK t hm
      exact ⟨⟨f, oc, od, fd, sl, .inl ⟨rfl, g1⟩, g2, g4⟩, #[], hH t hm, by simp [TriplesOk]⟩
theorem live_tabs {ts : List (Str × Addr × Addr)} {a : Addr} (h : Live (ts.map (·.2.2)) (tabs0 ts) a) : ∃ t ∈ ts, t.2.2 = a := by
  obtain ⟨n, c, h1, _, _⟩ := h
  obtain ⟨t, ht, e⟩ := List.mem_map.mp (List.mem_of_getElem? h1)
  exact ⟨t, ht, e⟩
theorem scr_tabs {ts : List (Str × Addr × Addr)} {H : Hp} {a : Addr} {xs : List V} (hK : ∀ t ∈ ts, TabK K mg t) (hH : ∀ t ∈ ts, H t.2.2 = some (.tbl #[])) (h : SqL K H a xs) : ScrR K (Live (ts.map (·.2.2)) (tabs0 ts)) H a xs := by
  rcases h with (h | ⟨ob, h⟩) | h
  · refine .inr ⟨h, fun z => ?_⟩
    obtain ⟨t, ht, rfl⟩ := live_tabs z
    rw [hH t ht] at h
    cases h
  · exact .inl (.inl ⟨ob, h⟩)
  · exact .inl (.inr h)
/-- the law's def, where tables are used -/
theorem law_mkT {names : List Str} {P : Program} {w : World} {fa : Addr} {x p : Str} {F : FF} {st : Stmt} {h : Heap} {f : Addr} {oc : Value} {od an : Option Addr} {osl : Array (Option Value)} {kV doc pm cdv ct : Value} (X : K.In h) (G : h.Ns mainGlobals mg) (hfa : mg x = some (.ref fa)) (a : PySem.W.nsIn K mainGlobals x = some (some (.ref f)))
    (l : K.lookup f = some ⟨oc, od, .func (PySem.W.fnOf x x (defArgs st) (defBody st) (defScope st) .none kV doc pm an cdv ct), osl⟩)
    (hb : ∀ (s : Shared) (u : Value), BindsTo s (PySem.W.fnOf x x (defArgs st) (defBody st) (defScope st) .none kV doc pm an cdv ct) ⟨[u], []⟩ [(p, u)])
    {ts : List (Str × Addr × Addr)} (hK : ∀ t ∈ ts, TabK K mg t) (nd : (ts.map (·.2.2)).Nodup) (hn : ts.map (·.1) = names)
    (S : ∀ base : Heap, (∀ t ∈ ts, GxR.TabB base mg t.2.1 t.2.2) → ∃ fd, FnOk P w K mg base (L2N.CX P w) k f fd [p] (spSim K mg 1 F) ∧ fd = PySem.W.fnOf x x (defArgs st) (defBody st) (defScope st) .none kV doc pm an cdv ct) :
    ∃ (fd : FuncData) (ts : List (Str × Addr × Addr)), (∀ (s : Shared) (v : Value), BindsTo s fd ⟨[v], []⟩ [(p, v)]) ∧ (∀ t ∈ ts, TabK K mg t) ∧ (ts.map (·.2.2)).Nodup ∧ ts.map (·.1) = names ∧ ∀ base : Heap, K.In base → base.Ns mainGlobals mg → (∀ t ∈ ts, GxR.TabB base mg t.2.1 t.2.2) → FnOk P w K mg base (L2N.CX P w) k fa fd [p] (spSim K mg 1 F) := by
  have e := hfa.symm.trans (PySem.W.mg_of X G a)
  cases e
  refine ⟨_, ts, hb, hK, nd, hn, fun base _ _ B => ?_⟩
  obtain ⟨fd, ok, e⟩ := S base B
  subst e
  exact ok
end
/-- the end -/
theorem walkT {l : PySem.W.OpenLaw} {k : Nat} {q : Program} {loose : List Str} {XP : (Str → Option Value) → Heap → Prop} {YP : World → Heap → Prop} {d : DefRec} {K : Params → PySem.W.Frag} {x : Str} {F : FF} {names : List Str}
    (hn : l.most = some 63) (hdf : d.params.defaults = []) (hr : Room k callerA) (hrec : names.all (fun x => (recsOf q).any fun e => e.name == x) = true) (hY : ∀ (w : World) (h : Heap), YP w h → (K w.params).In h)
    (hl : ∀ ns : List Int, ns.length ≤ 63 → ∃ I', F [.scr ns] (names.map fun n => .tab "" n) = .ok (.bl true) I')
    (hF : ∀ (w : World) (mg : Str → Option Value) (fa : Addr) (h : Heap), (K w.params).In h → h.Ns mainGlobals mg → mg d.name = some (.ref fa) →
      ∃ (fd : FuncData) (ts : List (Str × Addr × Addr)), (∀ (s : Shared) (u : Value), BindsTo s fd ⟨[u], []⟩ [(x, u)]) ∧ (∀ t ∈ ts, TabK (K w.params) mg t) ∧ (ts.map (·.2.2)).Nodup ∧ ts.map (·.1) = names ∧
        ∀ base : Heap, (K w.params).In base → base.Ns mainGlobals mg → (∀ t ∈ ts, GxR.TabB base mg t.2.1 t.2.2) → FnOk l.prog w (K w.params) mg base (L2N.CX l.prog w) k fa fd [x] (spSim (K w.params) mg 1 F)) :
    PySem.W.WalkO q loose XP YP l.row.toRowW d [] (fun f vs => PySem.call f vs) := by
  refine Att.attach_callB hn hdf fun w s₀ s₁ mg mb fa o pm cd doc a vs ns G Y ho hd hcd hmg hobj hints hlen hbits hg => ?_
  have KX := hY w _ Y
  obtain ⟨fd, ts, hb, hK, nd, hnm, hok⟩ := hF w mg fa _ KX G.T.g hmg
  have tab : ∀ t ∈ ts, PySem.W.CodeHd s₁.heap t.2.1 t.2.2 ∧ s₁.heap.get? t.2.2 = some { cls := .none, data := .fields #[] } := fun t ht => by
    obtain ⟨⟨f, oc, od, fd', sl, g1, g2, g3, g4⟩, g5⟩ := hK t ht
    have hm : t.1 ∈ names := by rw [← hnm]; exact List.mem_map.mpr ⟨t, ht, rfl⟩
    have hr' := List.all_eq_true.mp hrec t.1 hm
    obtain ⟨dL, hm, hn1⟩ := List.any_eq_true.mp hr'
    have hn2 : dL.name = t.1 := beq_iff_eq.mp hn1
    obtain ⟨a', o', fd2, c', P', h1, h2, h3, h4, h5, h6⟩ := G.T.tab dL hm
    rw [hn2, g1] at h1
    cases h1
    have e1 := KX _ _ g2
    rw [e1] at h2
    cases h2
    cases h3
    rw [g3] at h4
    cases h4
    have hCd := PySem.W.CodeHd.of h5 h6
    obtain ⟨⟨oc', vc, q1, q2, q3, q4⟩, hP⟩ := h6
    rw [g3] at g4
    unfold tabIn at g4
    have e2 : t.2.2 = P' := by
      dsimp only at g4
      split at g4
      · rename_i e3
        have e4 := KX _ _ e3
        rw [e4] at q1
        cases q1
        cases q3
        rw [q4] at g4
        cases g4; rfl
      · cases g4
    rw [e2]
    exact ⟨hCd, hP⟩
  have e0 : tabs0 ts = names.map fun n => .tab "" n := by unfold tabs0; rw [← hnm, List.map_map]; rfl
  refine LamX.law_callTs (CX := L2N.CX l.prog w) (cs := ts.map fun t => (t.2.1, t.2.2)) (sp := spLawT (K w.params) mg ts) (x := x) KX G.T.g G.T.b G.T.builtins G.T.nolimit hg ?_ ?_ ?_ G.T.bmain hobj hints (Nat.le_trans hlen (by decide)) hr (fun base hB hN hT => ?_) hb (fun H hH hS => ?_) fun H e s' z => cxN_false z
  · rintro p hp
    obtain ⟨t, ht, rfl⟩ := List.mem_map.mp hp
    exact (tab t ht).2
  · rintro p hp
    obtain ⟨t, ht, rfl⟩ := List.mem_map.mp hp
    exact (hK t ht).2
  · rintro p hp
    obtain ⟨t, ht, rfl⟩ := List.mem_map.mp hp
    exact (tab t ht).1
  · refine FnOk.weak (hok base hB hN fun t ht => have z := hT _ (List.mem_map.mpr ⟨t, ht, rfl⟩); ⟨z.code, z.bm, z.gP⟩) fun vs H Q E z => sp_lawT (ts := ts) (fun ns hns => ?_) z
    rw [e0]
    exact hl ns hns
  · have hH' : ∀ t ∈ ts, H t.2.2 = some (.tbl #[]) := fun t ht => hH _ (List.mem_map.mpr ⟨t, ht, rfl⟩)
    exact ⟨a, ns, rfl, ok_tabs hK nd hH', scr_tabs hK hH' hS, hlen, fun _ => rfl⟩
end MP
/-! MXP: plain words about the readings -/
namespace MP
open PySem PySem.Spec L2
@[simp] theorem bind_ok {α β : Type} {a : α} {I : MH} {k : α → MH → Res β} : (Res.ok a I).bind k = k a I := rfl
@[simp] theorem bind_err {α β : Type} {x : Exn} {I : MH} {k : α → MH → Res β} : (Res.err x I : Res α).bind k = .err x I := rfl
@[simp] theorem bindS_ok {α : Type} {a : α} {I : MH} {k : α → MH → SRes} : (Res.ok a I).bindS k = k a I := rfl
@[simp] theorem bindS_err {α : Type} {x : Exn} {I : MH} {k : α → MH → SRes} : (Res.err x I : Res α).bindS k = .err x I := rfl
@[simp] theorem calm_ok {α : Type} {a : α} {I : MH} : (Res.ok a I).calm = .ok a I := rfl
@[simp] theorem optR_some {α : Type} {a : α} {I : MH} : optR I (some a) = .ok a I := rfl
theorem seqS_nx {f g : SF} {ρ ρ' : En} {I I' : MH} (h : f ρ I = .nx ρ' I') : seqS f g ρ I = g ρ' I' := by unfold seqS; rw [h]
theorem seqS_ret {f g : SF} {ρ : En} {I I' : MH} {d : D} (h : f ρ I = .ret d I') : seqS f g ρ I = .ret d I' := by unfold seqS; rw [h]
theorem seqS_err {f g : SF} {ρ : En} {I I' : MH} {x : Exn} (h : f ρ I = .err x I') : seqS f g ρ I = .err x I' := by unfold seqS; rw [h]
theorem trim_len {I I' : MH} {d : D} (h : I'.length = I.length) : trim I d I' = I' := by
  unfold trim
  split
  · rw [← h, List.take_length]
  · rfl
theorem trim_self {I : MH} {d : D} : trim I d I = I := trim_len rfl
theorem run_ret {n : Nat} {b : SF} {ds : List D} {I I' : MH} {d : D} (h : b (ds.map some ++ List.replicate (n - ds.length) none) I = .ret d I') : runDef n b ds I = fin I d I' := by unfold runDef; rw [h]
theorem run_err {n : Nat} {b : SF} {ds : List D} {I I' : MH} {x : Exn} (h : b (ds.map some ++ List.replicate (n - ds.length) none) I = .err x I') : runDef n b ds I = .err x (trim I ((x.fld.map (·.2)).getD .non) I') := by unfold runDef; rw [h]
/-- a value without cells -/
def imm : D → Bool
  | .loc _ => false
  | .tup [.str _, .loc _] => false
  | _ => true
theorem fin_imm {I I' : MH} {d : D} (h : imm d = true) : fin I d I' = .ok d (trim I d I') := by
  unfold fin
  split
  · cases h
  · cases h
  · rfl
theorem while_no {t : TF} {b : SF} {n : Nat} {ρ : En} {I I1 : MH} (h : t ρ I = .ok false I1) : whileN t b (n + 1) ρ I = .nx ρ I1 := by
  show (t ρ I).bindS _ = _
  rw [h, bindS_ok, if_neg Bool.false_ne_true]
theorem while_nx {t : TF} {b : SF} {n : Nat} {ρ ρ2 : En} {I I1 I2 : MH} (h : t ρ I = .ok true I1) (hb : b ρ I1 = .nx ρ2 I2) : whileN t b (n + 1) ρ I = whileN t b n ρ2 I2 := by
  show (t ρ I).bindS _ = _
  rw [h, bindS_ok, if_pos rfl, hb]
theorem while_err {t : TF} {b : SF} {n : Nat} {ρ : En} {I I1 I2 : MH} {x : Exn} (h : t ρ I = .ok true I1) (hb : b ρ I1 = .err x I2) : whileN t b (n + 1) ρ I = .err x I2 := by
  show (t ρ I).bindS _ = _
  rw [h, bindS_ok, if_pos rfl, hb]
/-! ### the forms, opened -/
/-- a place, a length: an int that is no less than 0 (opaque to simp, so that the places stay naturals) -/
def cI (a : Nat) : Int := a
def nI (a : Nat) : D := .int (cI a)
def toB (x : D) (I : MH) : Res Bool := match x with
  | .bl b => .ok b I
  | _ => .stuck
def toI (x : D) (I : MH) : Res (Option Int) := match x with
  | .int i => .ok (some i) I
  | _ => .stuck
def rngV (x y : D) (I : MH) : Res Itr := match x, y with
  | .int i, .int j => if decide (-(2 ^ 62) ≤ i ∧ i < 2 ^ 62 ∧ -(2 ^ 62) ≤ j ∧ j < 2 ^ 62) then .ok ⟨rangeL i j, none⟩ I else .stuck
  | _, _ => .stuck
def rngW (x : D) (I : MH) : Res Itr := match x with
  | .int j => if decide (-(2 ^ 62) ≤ j ∧ j < 2 ^ 62) then .ok ⟨rangeL 0 j, none⟩ I else .stuck
  | _ => .stuck
def thenS (r : SRes) (g : SF) : SRes := match r with
  | .nx ρ I => g ρ I
  | r => r
noncomputable def endD (I : MH) (r : SRes) : Res D := match r with
  | .ret d I' => fin I d I'
  | .nx _ I' => .ok .non (trim I .non I')
  | .err x I' => .err x (trim I ((x.fld.map (·.2)).getD .non) I')
  | _ => .stuck
section
variable {ρ : En} {I I' : MH} {d x y z : D}
@[simp] theorem e_cV : cV d ρ I = .ok d I := rfl
@[simp] theorem e_get {i : Nat} (h : ρ[i]? = some (some d)) : getV i ρ I = .ok d I := by unfold getV; rw [h]
@[simp] theorem e_bin2 {g : D → D → MH → Res D} {f h : EF} : bin2 g f h ρ I = (f ρ I).bind fun x I1 => (h ρ I1).bind fun y I2 => g x y I2 := rfl
@[simp] theorem e_un1 {g : D → MH → Res D} {f : EF} : un1 g f ρ I = (f ρ I).bind fun x I1 => g x I1 := rfl
@[simp] theorem e_ifE {t : TF} {f g : EF} : ifE t f g ρ I = (t ρ I).bind fun b I1 => if b then f ρ I1 else g ρ I1 := rfl
@[simp] theorem e_seqA0 : seqA [] ρ I = .ok [] I := rfl
@[simp] theorem e_seqA {f : EF} {fs : List EF} : seqA (f :: fs) ρ I = (f ρ I).bind fun x I1 => (seqA fs ρ I1).bind fun xs I2 => .ok (x :: xs) I2 := rfl
@[simp] theorem e_tupE {fs : List EF} : tupE fs ρ I = (seqA fs ρ I).bind fun xs I1 => if small xs.length then .ok (.tup xs) I1 else .stuck := rfl
@[simp] theorem e_lstE {fs : List EF} : lstE fs ρ I = (seqA fs ρ I).bind fun xs I1 => if small xs.length then .ok (.lst xs) I1 else .stuck := rfl
@[simp] theorem e_lstM {fs : List EF} : lstM fs ρ I = (seqA fs ρ I).bind fun xs I1 => if small xs.length then .ok (.loc I1.length) (I1 ++ [.lst xs]) else .stuck := rfl
@[simp] theorem e_part0 : partE none ρ I = .ok none I := rfl
@[simp] theorem e_part {f : EF} : partE (some f) ρ I = (f ρ I).bind toI := by
  show (f ρ I).bind _ = _
  congr 1
@[simp] theorem toI_n {a : Nat} : toI (nI a) I = .ok (some (cI a)) I := rfl
@[simp] theorem toI_i {a : Int} : toI (.int a) I = .ok (some a) I := rfl
@[simp] theorem e_slice {f : EF} {lo hi : Option EF} : sliceE f lo hi ρ I = (f ρ I).bind fun x I1 => (partE lo ρ I1).bind fun l I2 => (partE hi ρ I2).bind fun h I3 => slD x l h I3 := rfl
@[simp] theorem e_call {n : Nat} {F : FF} {fs : List EF} : callE n F fs ρ I = (seqA fs ρ I).bind fun xs I1 => if xs.length = n then F xs I1 else .stuck := rfl
@[simp] theorem e_blt {g : List D → MH → Res D} {fs : List EF} : bltE g fs ρ I = (seqA fs ρ I).bind fun xs I1 => (g xs I1).calm := rfl
@[simp] theorem e_meth {p : D → MH → Bool} {g : D → List D → MH → Res D} {f : EF} {fs : List EF} : methE p g f fs ρ I = (f ρ I).bind fun x I1 => if p x I1 then (seqA fs ρ I1).bind fun xs I2 => (g x xs I2).calm else .stuck := rfl
@[simp] theorem e_tru {f : EF} : truE f ρ I = (f ρ I).bind fun x I1 => truD x I1 := rfl
@[simp] theorem toB_b {b : Bool} : toB (.bl b) I = .ok b I := rfl
@[simp] theorem e_bool {f : EF} : boolE f ρ I = (f ρ I).bind toB := by
  show (f ρ I).bind _ = _
  congr 1
@[simp] theorem e_andT {f g : TF} : andT f g ρ I = (f ρ I).bind fun b I1 => if b then g ρ I1 else .ok false I1 := rfl
@[simp] theorem e_orT {f g : TF} : orT f g ρ I = (f ρ I).bind fun b I1 => if b then .ok true I1 else g ρ I1 := rfl
@[simp] theorem e_notT {f : TF} : notT f ρ I = (f ρ I).bind fun b I1 => .ok (!b) I1 := rfl
@[simp] theorem e_nx : nxS ρ I = .nx ρ I := rfl
@[simp] theorem e_if {t : TF} {f g : SF} : ifS t f g ρ I = (t ρ I).bindS fun b I1 => if b then f ρ I1 else g ρ I1 := rfl
@[simp] theorem e_ret {f : EF} : retS f ρ I = (f ρ I).bindS fun d I1 => .ret d I1 := rfl
@[simp] theorem e_expr {f : EF} : exprS f ρ I = (f ρ I).bindS fun _ I1 => .nx ρ I1 := rfl
@[simp] theorem e_asg {f : EF} {t : D → SF} : asgS f t ρ I = (f ρ I).bindS fun d I1 => t d ρ I1 := rfl
@[simp] theorem e_name {i : Nat} : nameT i d ρ I = .nx (ρ.set i (some d)) I := rfl
@[simp] theorem e_raise {x : Str} {fld : Option Str} {f : EF} : raiseS x fld f ρ I = (f ρ I).bindS fun d I1 => .err ⟨x, fld.map fun n => (n, d)⟩ I1 := rfl
@[simp] theorem e_aug {i : Nat} {g : D → D → MH → Res D} {f : EF} (h : ρ[i]? = some (some x)) : augS i g f ρ I = (f ρ I).bindS fun y I1 => (g x y I1).calm.bindS fun z I2 => .nx (ρ.set i (some z)) I2 := by unfold augS; rw [h]
@[simp] theorem then_nx {g : SF} : thenS (.nx ρ I) g = g ρ I := rfl
@[simp] theorem then_ret {g : SF} : thenS (.ret d I) g = .ret d I := rfl
@[simp] theorem then_err {g : SF} {x : Exn} : thenS (.err x I) g = .err x I := rfl
@[simp] theorem e_seq {f g : SF} : seqS f g ρ I = thenS (f ρ I) g := by unfold seqS thenS; cases f ρ I <;> rfl
theorem run_def {n : Nat} {b : SF} {ds : List D} : runDef n b ds I = endD I (b (ds.map some ++ List.replicate (n - ds.length) none) I) := by unfold runDef endD; cases b (ds.map some ++ List.replicate (n - ds.length) none) I <;> rfl
@[simp] theorem end_ret : endD I (.ret d I') = fin I d I' := rfl
@[simp] theorem end_nx : endD I (.nx ρ I') = .ok .non (trim I .non I') := rfl
@[simp] theorem end_err {x : Exn} : endD I (.err x I') = .err x (trim I ((x.fld.map (·.2)).getD .non) I') := rfl
@[simp] theorem trim_self' : trim I d I = I := trim_self
@[simp] theorem fin_int {i : Int} : fin I (.int i) I' = .ok (.int i) (trim I (.int i) I') := rfl
@[simp] theorem fin_n {i : Nat} : fin I (nI i) I' = .ok (nI i) (trim I (nI i) I') := rfl
@[simp] theorem fin_str {s : List Nat} : fin I (.str s) I' = .ok (.str s) (trim I (.str s) I') := rfl
@[simp] theorem fin_bl {b : Bool} : fin I (.bl b) I' = .ok (.bl b) (trim I (.bl b) I') := rfl
@[simp] theorem fin_non : fin I .non I' = .ok .non (trim I .non I') := rfl
@[simp] theorem fin_si {s : List Nat} {i : Int} : fin I (.tup [.str s, .int i]) I' = .ok (.tup [.str s, .int i]) (trim I (.tup [.str s, .int i]) I') := rfl
@[simp] theorem fin_sn {s : List Nat} {i : Nat} : fin I (.tup [.str s, nI i]) I' = .ok (.tup [.str s, nI i]) (trim I (.tup [.str s, nI i]) I') := rfl
@[simp] theorem fin_ii {i : Int} : fin I (.tup [.int i, y]) I' = .ok (.tup [.int i, y]) (trim I (.tup [.int i, y]) I') := by unfold fin; cases y <;> rfl
@[simp] theorem fin_t3 : fin I (.tup [x, y, z]) I' = .ok (.tup [x, y, z]) (trim I (.tup [x, y, z]) I') := by unfold fin; cases x <;> cases y <;> rfl
@[simp] theorem e_tup {is : List Nat} {ds : List D} : tupT is (.tup ds) ρ I = namesT is ds ρ I := rfl
@[simp] theorem e_names0 : namesT [] [] ρ I = .nx ρ I := rfl
@[simp] theorem e_names {i : Nat} {is : List Nat} {ds : List D} : namesT (i :: is) (d :: ds) ρ I = namesT is ds (ρ.set i (some d)) I := rfl
/-! operators on places -/
@[simp] theorem o_add1 {a : Nat} : addD (nI a) (.int 1) I = .ok (nI (a + 1)) I := rfl
@[simp] theorem o_add3 {a : Nat} : addD (nI a) (.int 3) I = .ok (nI (a + 3)) I := rfl
@[simp] theorem o_add0 {a : Nat} : addD (nI a) (.int 0) I = .ok (nI a) I := rfl
@[simp] theorem o_add10 {a : Nat} : addD (nI a) (.int 10) I = .ok (nI (a + 10)) I := rfl
@[simp] theorem o_addn {a b : Nat} : addD (nI a) (nI b) I = .ok (nI (a + b)) I := rfl
@[simp] theorem o_augn {a : Nat} : addI (nI a) (.int 1) I = .ok (nI (a + 1)) I := rfl
@[simp] theorem o_ltn {a b : Nat} : ltS (nI a) (nI b) I = .ok (.bl (decide (a < b))) I := by
  show Res.ok (D.bl (decide ((a : Int) < (b : Int)))) I = _
  congr 2
  exact decide_eq_decide.mpr Int.ofNat_lt
@[simp] theorem o_ltz {a : Nat} : ltS (nI a) (.int 0) I = .ok (.bl false) I := by
  show Res.ok (D.bl (decide ((a : Int) < 0))) I = _
  rw [decide_eq_false (by omega)]
theorem o_gtk {a k : Nat} : cmpI (fun i j => decide (j < i)) (nI a) (.int ((k : Nat) : Int)) I = .ok (.bl (decide (k < a))) I := by
  show Res.ok (D.bl (decide ((k : Int) < (a : Int)))) I = _
  congr 2
  exact decide_eq_decide.mpr Int.ofNat_lt
@[simp] theorem o_gt30 {a : Nat} : cmpI (fun i j => decide (j < i)) (nI a) (.int 30) I = .ok (.bl (decide (30 < a))) I := o_gtk
@[simp] theorem o_gt10 {a : Nat} : cmpI (fun i j => decide (j < i)) (nI a) (.int 10) I = .ok (.bl (decide (10 < a))) I := o_gtk
@[simp] theorem o_gtn {a b : Nat} : cmpI (fun i j => decide (j < i)) (nI a) (nI b) I = .ok (.bl (decide (b < a))) I := o_gtk
@[simp] theorem o_eqn {a b : Nat} : eqD (nI a) (nI b) I = .ok (.bl (a == b)) I := by
  show Res.ok (D.bl ((a : Int) == (b : Int))) I = _
  congr 2
  by_cases h : a = b
  · subst h; simp
  · have h2 : ¬ ((a : Int) = (b : Int)) := by omega
    rw [beq_eq_false_iff_ne.mpr h, beq_eq_false_iff_ne.mpr h2]
theorem o_subn {a b : Nat} (h : b ≤ a) : subD (nI a) (nI b) I = .ok (nI (a - b)) I := by
  show Res.ok (D.int ((a : Int) - (b : Int))) I = Res.ok (D.int ((a - b : Nat) : Int)) I
  rw [Int.ofNat_sub h]
@[simp] theorem o_addii {i j : Int} : addD (.int i) (.int j) I = .ok (.int (i + j)) I := rfl
@[simp] theorem o_subii {i j : Int} : subD (.int i) (.int j) I = .ok (.int (i - j)) I := rfl
@[simp] theorem o_lt {i j : Int} : ltS (.int i) (.int j) I = .ok (.bl (decide (i < j))) I := rfl
@[simp] theorem o_le {i j : Int} : leS (.int i) (.int j) I = .ok (.bl (decide (i ≤ j))) I := rfl
@[simp] theorem o_cmp {p : Int → Int → Bool} {i j : Int} : cmpI p (.int i) (.int j) I = .ok (.bl (p i j)) I := rfl
@[simp] theorem o_eqii {i j : Int} : eqD (.int i) (.int j) I = .ok (.bl (i == j)) I := rfl
@[simp] theorem o_neii {i j : Int} : neD (.int i) (.int j) I = .ok (.bl (!(i == j))) I := rfl
@[simp] theorem o_eqss {s t : List Nat} : eqD (.str s) (.str t) I = .ok (.bl (s == t)) I := rfl
@[simp] theorem o_ness {s t : List Nat} : neD (.str s) (.str t) I = .ok (.bl (!(s == t))) I := rfl
@[simp] theorem o_nebb {s t : Bool} : neD (.bl s) (.bl t) I = .ok (.bl (!(s == t))) I := rfl
@[simp] theorem o_in1 {c : Nat} {s : List Nat} : inB false (.str [c]) (.str s) I = .ok (.bl (decide (c ∈ s))) I := rfl
@[simp] theorem o_nin1 {c : Nat} {s : List Nat} : inB true (.str [c]) (.str s) I = .ok (.bl (!decide (c ∈ s))) I := rfl
@[simp] theorem o_not {b : Bool} : notB (.bl b) I = .ok (.bl (!b)) I := rfl
@[simp] theorem o_neg {i : Int} : negD (.int i) I = .ok (.int (-i)) I := rfl
theorem small_of {n : Nat} (h : n ≤ 16777216) : small n = true := decide_eq_true (by rw [sizeLine_eq]; exact h)
@[simp] theorem e_small {n : Nat} (h : n ≤ 16777216) : small n = true := small_of h
@[simp] theorem o_len {s : List Nat} (h : s.length ≤ 16777216) : lenD [.str s] I = .ok (nI s.length) I := by
  show (if small s.length then _ else _) = _
  rw [small_of h]; rfl
theorem e_ixs {s : List Nat} {a c : Nat} (h : s.length ≤ 16777216) (hc : s[a]? = some c) : ixD (.str s) (nI a) I = .ok (.str [c]) I := by
  have e : atI s ((a : Nat) : Int) = some c := atI_nat hc
  show (if small s.length then optR I ((atI s ((a : Nat) : Int)).map fun c => D.str [c]) else Res.stuck) = _
  rw [small_of h, if_pos rfl, e]
  rfl
@[simp] theorem o_ix0 {c : Nat} {s : List Nat} (h : s.length + 1 ≤ 16777216) : ixD (.str (c :: s)) (.int 0) I = .ok (.str [c]) I := e_ixs (a := 0) h rfl
@[simp] theorem o_sl {s : List Nat} {a b : Nat} (h : s.length ≤ 16777216) (ha : a ≤ s.length) : slD (.str s) (some (cI a)) (some (cI b)) I = .ok (.str ((s.drop a).take (b - a))) I := by
  show (if small s.length then Res.ok (D.str (cutD s (some ((a : Nat) : Int)) (some ((b : Nat) : Int)))) I else .stuck) = _
  rw [small_of h, if_pos rfl]
  unfold cutD
  rw [HT.sIx_nat, HT.sIx_nat, Nat.min_eq_left ha]
  congr 2
  by_cases hb : b ≤ s.length
  · rw [Nat.min_eq_left hb]
  · rw [Nat.min_eq_right (by omega), List.take_of_length_le (by rw [List.length_drop]; omega), List.take_of_length_le (by rw [List.length_drop]; omega)]
@[simp] theorem o_ixt0 {xs : List D} : ixD (.tup (x :: xs)) (.int 0) I = .ok x I := by
  have e : atI (x :: xs) ((0 : Nat) : Int) = some x := atI_nat rfl
  show optR I (atI (x :: xs) ((0 : Nat) : Int)) = _
  rw [e]
  rfl
@[simp] theorem o_ixt1 {xs : List D} : ixD (.tup (x :: y :: xs)) (.int 1) I = .ok y I := by
  have e : atI (x :: y :: xs) ((1 : Nat) : Int) = some y := atI_nat rfl
  show optR I (atI (x :: y :: xs) ((1 : Nat) : Int)) = _
  rw [e]
  rfl
@[simp] theorem o_ixt2 {xs : List D} : ixD (.tup (x :: y :: z :: xs)) (.int 2) I = .ok z I := by
  have e : atI (x :: y :: z :: xs) ((2 : Nat) : Int) = some z := atI_nat rfl
  show optR I (atI (x :: y :: z :: xs) ((2 : Nat) : Int)) = _
  rw [e]
  rfl
theorem o_ixln {xs : List D} {k : Nat} (h : xs[k]? = some x) : ixD (.lst xs) (nI k) I = .ok x I := by
  have e : atI xs ((k : Nat) : Int) = some x := atI_nat h
  show optR I (atI xs ((k : Nat) : Int)) = _
  rw [e]
  rfl
@[simp] theorem o_ixl0 {xs : List D} : ixD (.lst (x :: xs)) (.int 0) I = .ok x I := o_ixln (k := 0) rfl
@[simp] theorem o_ixl1 {xs : List D} : ixD (.lst (x :: y :: xs)) (.int 1) I = .ok y I := o_ixln (k := 1) rfl
@[simp] theorem o_addt1 {ys : List D} (h : ys.length + 1 ≤ 16777216) : addD (.tup [x]) (.tup ys) I = .ok (.tup (x :: ys)) I := by
  show (if small ([x].length + ys.length) && !([x] : List D).isEmpty then Res.ok (D.tup ([x] ++ ys)) I else .stuck) = _
  rw [small_of (by simp; omega)]
  rfl
@[simp] theorem o_adds {s u : List Nat} (h : s.length + u.length ≤ 16777216) : addD (.str s) (.str u) I = .ok (.str (s ++ u)) I := by
  show (if small (s.length + u.length) then Res.ok (D.str (s ++ u)) I else .stuck) = _
  rw [small_of h]
  rfl
@[simp] theorem o_isLst {n : Nat} {xs : List D} {J : MH} (h : J[n]? = some (.lst xs)) : isLst (.loc n) J = true := by
  unfold isLst lstOf
  dsimp only
  rw [h]
  rfl
@[simp] theorem o_append {n : Nat} {xs : List D} {J : MH} (h : J[n]? = some (.lst xs)) (hl : xs.length < 16777216) : appendD (.loc n) [d] J = .ok .non (J.set n (.lst (xs ++ [d]))) := by
  unfold appendD
  dsimp only
  rw [h]
  dsimp only
  rw [if_pos (decide_eq_true (by rw [sizeLine_eq]; exact hl))]
theorem new_get {c : Cell} : (I ++ [c])[I.length]? = some c := by simp
theorem new_set {c c' : Cell} : (I ++ [c]).set I.length c' = I ++ [c'] := by simp
theorem trim_app {J : MH} (h : d.under I.length = true) : trim I d (I ++ J) = I := by
  unfold trim
  rw [if_pos ⟨h, fun i c hi hc => .inl (by rw [List.getElem?_append_left hi] at hc; exact hc)⟩, List.take_left]
@[simp] theorem under_n {n a : Nat} : (nI a).under n = true := by unfold nI; simp [D.under]
@[simp] theorem under_int {n : Nat} {a : Int} : (D.int a).under n = true := by simp [D.under]
@[simp] theorem under_str {n : Nat} {a : List Nat} : (D.str a).under n = true := by simp [D.under]
@[simp] theorem under_bl {n : Nat} {a : Bool} : (D.bl a).under n = true := by simp [D.under]
@[simp] theorem under_non {n : Nat} : D.non.under n = true := by simp [D.under]
@[simp] theorem under_tup {n : Nat} {xs : List D} : (D.tup xs).under n = unders n xs := by simp [D.under]
@[simp] theorem under_lst {n : Nat} {xs : List D} : (D.lst xs).under n = unders n xs := by simp [D.under]
@[simp] theorem unders0 {n : Nat} : unders n [] = true := by simp [unders]
@[simp] theorem unders1 {n : Nat} {xs : List D} : unders n (d :: xs) = (d.under n && unders n xs) := by simp [unders]
theorem unders_app {n : Nat} : ∀ {xs ys : List D}, unders n (xs ++ ys) = (unders n xs && unders n ys)
  | [], ys => by simp
  | x :: xs, ys => by rw [List.cons_append, unders1, unders1, unders_app, Bool.and_assoc]
theorem fin_new {xs : List D} (h : unders I.length xs = true) : fin I (.loc I.length) (I ++ [.lst xs]) = .ok (.lst xs) I := by
  unfold fin
  dsimp only
  rw [if_pos (Nat.le_refl _), new_get]
  dsimp only
  rw [new_set, trim_app (by rw [under_lst]; exact h)]
theorem fin_tnew {s : List Nat} {xs : List D} (h : unders I.length xs = true) : fin I (.tup [.str s, .loc I.length]) (I ++ [.lst xs]) = .ok (.tup [.str s, .lst xs]) I := by
  unfold fin
  dsimp only
  rw [if_pos (Nat.le_refl _), new_get]
  dsimp only
  rw [new_set, trim_app (by simp [h])]
@[simp] theorem fin_sl {s : List Nat} {xs : List D} : fin I (.tup [.str s, .lst xs]) I' = .ok (.tup [.str s, .lst xs]) (trim I (.tup [.str s, .lst xs]) I') := rfl
theorem try_err {c : Str} {sd : Option (Str × D) → Option D} {f : SF} {fl : Option (Str × D)} (h : f ρ I = .err ⟨c, fl⟩ I') (hs : sd fl = some d) : tryS c sd f ρ I = .ret d I' := by
  unfold tryS
  rw [h]
  dsimp only
  rw [if_pos rfl, hs]
theorem try_ret {c : Str} {sd : Option (Str × D) → Option D} {f : SF} (h : f ρ I = .ret d I') : tryS c sd f ρ I = .ret d I' := by
  unfold tryS
  rw [h]
@[simp] theorem o_subc {b n : Nat} : subD (nI (b + n)) (nI b) I = .ok (nI n) I := by
  rw [o_subn (Nat.le_add_right b n), Nat.add_sub_cancel_left]
@[simp] theorem o_intb1 : intD [.bl true] I = .ok (.int 1) I := rfl
@[simp] theorem o_intb0 : intD [.bl false] I = .ok (.int 0) I := rfl
theorem o_ints {s : List Nat} (h : s.all (fun c => decide (48 ≤ c) && decide (c ≤ 57)) = true) (hne : s ≠ []) (hl : s.length ≤ 640) : intD [.str s] I = .ok (.int ((NumText.digitsVal s : Nat) : Int)) I := by
  show (if decide (s.length ≤ 640) then optR I ((PySem.intText? (toS s)).map D.int) else .stuck) = _
  rw [if_pos (decide_eq_true hl), show PySem.intText? (toS s) = some ((NumText.digitsVal s : Nat) : Int) from SX.int_S h hne (by omega)]
  rfl
@[simp] theorem o_mul0 {i j : Int} (h : decide (-(2 ^ 64) < j ∧ j < 2 ^ 64) = true) : mulSD (.int i) (.int j) I = .ok (.int (i * j)) I := by
  show (if decide (-(2 ^ 64) < i ∧ i < 2 ^ 64) || decide (-(2 ^ 64) < j ∧ j < 2 ^ 64) then Res.ok (D.int (i * j)) I else .stuck) = _
  rw [h, Bool.or_true, if_pos rfl]
theorem o_mul2 {i j : Int} (h : decide (-(2 ^ 64) < i ∧ i < 2 ^ 64) = true) : mulSD (.int i) (.int j) I = .ok (.int (i * j)) I := by
  show (if decide (-(2 ^ 64) < i ∧ i < 2 ^ 64) || decide (-(2 ^ 64) < j ∧ j < 2 ^ 64) then Res.ok (D.int (i * j)) I else .stuck) = _
  rw [h, Bool.true_or, if_pos rfl]
@[simp] theorem o_isStr {s : List Nat} : isStr (.str s) I = true := rfl
theorem o_find {s u : List Nat} {i : Nat} : findD (.str s) [.str u, nI i] I = .ok (.int (Txt.find3 (toS s) (toS u) (i : Int))) I := rfl
theorem find_spec (t : List Nat) (c i : Nat) : (Txt.find3 (toS t) (toS [c]) (i : Int) = -1 ∧ ∀ v, i ≤ v → v < t.length → t[v]? ≠ some c) ∨
    ∃ k : Nat, Txt.find3 (toS t) (toS [c]) (i : Int) = (k : Int) ∧ i ≤ k ∧ t[k]? = some c ∧ ∀ v, i ≤ v → v < k → t[v]? ≠ some c := by
  have hl : (toS t).length = t.length := toS_length t
  have hf : fromIndex (toS t).length (i : Int) = i := by
    unfold fromIndex
    rw [if_neg (by omega)]
    omega
  have hg : ∀ v, v < t.length → (toS t).cps.getD v 0 = c → t[v]? = some c := fun v hv h => StrLaws.getElem?_of_getD (x := toS t) (by rw [hl]; exact hv) h
  have hg' : ∀ v, v < t.length → t[v]? = some c → (toS t).cps.getD v 0 = c := fun v hv h => StrLaws.getD_of_getElem? (x := toS t) h
  rcases StrLaws.find3_spec (toS t) c (i : Int) with ⟨h1, h2⟩ | ⟨k, h1, h2, h3, h4, h5⟩
  · rw [hf, hl] at h2
    exact .inl ⟨h1, fun v a b e => h2 v a b (hg' v b e)⟩
  · rw [hf] at h2 h5
    rw [hl] at h3
    exact .inr ⟨k, h1, h2, hg k h3 h4, fun v a b e => h5 v a b (hg' v (by omega) e)⟩
/-! loops over a range -/
@[simp] theorem e_rng2 {f g : EF} : rng2I f g ρ I = (f ρ I).bind fun x I1 => (g ρ I1).bind fun y I2 => rngV x y I2 := by
  show (f ρ I).bind _ = _
  congr 1
@[simp] theorem e_rng1 {f : EF} : rng1I f ρ I = (f ρ I).bind fun x I1 => rngW x I1 := by
  show (f ρ I).bind _ = _
  congr 1
def upTo (a b : Nat) : List D := (List.range (b - a)).map fun i => nI (a + i)
theorem upTo_nil {a b : Nat} (h : b ≤ a) : upTo a b = [] := by unfold upTo; rw [show b - a = 0 by omega]; rfl
theorem upTo_cons {a b : Nat} (h : a < b) : upTo a b = nI a :: upTo (a + 1) b := by
  unfold upTo
  rw [show b - a = (b - (a + 1)) + 1 by omega, List.range_succ_eq_map, List.map_cons, List.map_map]
  congr 1
  refine List.map_congr_left fun i _ => ?_
  show nI (a + (i + 1)) = nI (a + 1 + i)
  rw [show a + (i + 1) = a + 1 + i by omega]
theorem rangeL_n (a b : Nat) : rangeL (a : Int) (b : Int) = upTo a b := by
  unfold rangeL upTo
  rw [show ((b : Int) - (a : Int)).toNat = b - a by omega]
  rfl
@[simp] theorem rngV_n {a b : Nat} (ha : a ≤ 16777216) (hb : b ≤ 16777216) : rngV (nI a) (nI b) I = .ok ⟨upTo a b, none⟩ I := by
  unfold rngV nI
  dsimp only
  have e : decide (-(2 ^ 62) ≤ cI a ∧ cI a < 2 ^ 62 ∧ -(2 ^ 62) ≤ cI b ∧ cI b < 2 ^ 62) = true := decide_eq_true (by unfold cI; omega)
  rw [if_pos e]
  exact congrArg (fun l => Res.ok (⟨l, none⟩ : Itr) I) (rangeL_n a b)
@[simp] theorem rngW_n {b : Nat} (hb : b ≤ 16777216) : rngW (nI b) I = .ok ⟨upTo 0 b, none⟩ I := by
  unfold rngW nI
  dsimp only
  have e : decide (-(2 ^ 62) ≤ cI b ∧ cI b < 2 ^ 62) = true := decide_eq_true (by unfold cI; omega)
  rw [if_pos e]
  exact congrArg (fun l => Res.ok (⟨l, none⟩ : Itr) I) (rangeL_n 0 b)
@[simp] theorem e_for {it : IF} {t : D → SF} {b : SF} : forS it t b ρ I = (it ρ I).bindS fun ip I1 => forL ip t b ip.items ρ I1 := rfl
theorem for_nil {L : List D} {t : D → SF} {b : SF} : forL ⟨L, none⟩ t b [] ρ I = .nx ρ I := rfl
theorem for_nx {L xs : List D} {t : D → SF} {b : SF} {ρ1 ρ2 : En} {I1 I2 : MH} (h1 : t x ρ I = .nx ρ1 I1) (h2 : b ρ1 I1 = .nx ρ2 I2) : forL ⟨L, none⟩ t b (x :: xs) ρ I = forL ⟨L, none⟩ t b xs ρ2 I2 := by
  rw [forL]
  dsimp only
  rw [if_pos (show watchOk ⟨L, none⟩ I = true from rfl), h1]
  dsimp only
  rw [h2]
theorem for_ret {L xs : List D} {t : D → SF} {b : SF} {ρ1 : En} {I1 I2 : MH} (h1 : t x ρ I = .nx ρ1 I1) (h2 : b ρ1 I1 = .ret d I2) : forL ⟨L, none⟩ t b (x :: xs) ρ I = .ret d I2 := by
  rw [forL]
  dsimp only
  rw [if_pos (show watchOk ⟨L, none⟩ I = true from rfl), h1]
  dsimp only
  rw [h2]
end
end MP
/-! MXQ: more plain words: ints, cells -/
namespace MP
open PySem PySem.Spec L2
section
variable {ρ : En} {I J : MH} {d x y z : D}
theorem o_modi {i j : Int} (h : 0 < j) : modD (.int i) (.int j) I = .ok (.int (i % j)) I := by
  show (if decide (0 < j) then Res.ok (D.int (i % j)) I else .stuck) = _
  rw [if_pos (decide_eq_true h)]
theorem o_divi {i j : Int} (h : 0 < j ∧ j < 2 ^ 64) : fdivD (.int i) (.int j) I = .ok (.int (i / j)) I := by
  show (if decide (0 < j ∧ j < 2 ^ 64) then Res.ok (D.int (i / j)) I else .stuck) = _
  rw [if_pos (decide_eq_true h)]
theorem o_scrlen {ns : List Int} : lenD [.scr ns] I = .ok (nI ns.length) I := by
  show Res.ok (D.int ((ns.map D.int).length : Int)) I = _
  rw [List.length_map]
  rfl
theorem o_modn {i j : Nat} (h : 0 < j) : modD (nI i) (nI j) I = .ok (nI (i % j)) I := o_modi (i := i) (j := j) (by omega)
theorem o_muln {k : Nat} {j : Int} (h : decide (-(2 ^ 64) < j ∧ j < 2 ^ 64) = true) : mulSD (nI k) (.int j) I = .ok (.int (k * j)) I := o_mul0 h
theorem o_addni {i : Int} {k : Nat} : addD (.int i) (nI k) I = .ok (.int (i + k)) I := rfl
theorem o_scrtru {ns : List Int} : truD (.scr ns) I = .ok (!ns.isEmpty) I := by
  show Res.ok (!(ns.map D.int).isEmpty) I = _
  cases ns <;> rfl
theorem o_scrix {ns : List Int} {k : Nat} {i : Int} (h : ns[k]? = some i) : ixD (.scr ns) (nI k) I = .ok (.int i) I := by
  have e : atI (ns.map D.int) ((k : Nat) : Int) = some (.int i) := atI_nat (by rw [List.getElem?_map, h]; rfl)
  show optR I (atI (ns.map D.int) ((k : Nat) : Int)) = _
  rw [e]
  rfl
theorem o_pow18 : powD (.int 10) (.int 18) I = .ok (.int 1000000000000000000) I := by
  show (if decide ((0 : Int) ≤ 18 ∧ (18 : Int) ≤ 1000000 ∧ (10 : Int).natAbs < 2 ^ 64) then Res.ok (D.int (10 ^ (18 : Int).toNat)) I else .stuck) = _
  rw [if_pos (by decide)]
  rfl
theorem o_intI {i : Int} : intD [.int i] I = .ok (.int i) I := rfl
/-- a cell of two -/
theorem o_cell0 {n : Nat} {a b : D} (h : J[n]? = some (.lst [a, b])) : ixD (.loc n) (.int 0) J = .ok a J := by
  have e : atI [a, b] ((0 : Nat) : Int) = some a := atI_nat rfl
  unfold ixD seqOf
  dsimp only
  rw [h]
  dsimp only
  rw [show (0 : Int) = ((0 : Nat) : Int) from rfl, e]
  rfl
theorem o_cell1 {n : Nat} {a b : D} (h : J[n]? = some (.lst [a, b])) : ixD (.loc n) (.int 1) J = .ok b J := by
  have e : atI [a, b] ((1 : Nat) : Int) = some b := atI_nat rfl
  unfold ixD seqOf
  dsimp only
  rw [h]
  dsimp only
  rw [show (1 : Int) = ((1 : Nat) : Int) from rfl, e]
  rfl
theorem o_set0 {n : Nat} {a b v : D} (h : J[n]? = some (.lst [a, b])) : setIx (.loc n) (.int 0) v J = .ok () (J.set n (.lst [v, b])) := by
  unfold setIx
  dsimp only
  rw [h]
  dsimp only
  rw [show ixN [a, b].length 0 = some 0 from rfl]
  rfl
theorem o_set1 {n : Nat} {a b v : D} (h : J[n]? = some (.lst [a, b])) : setIx (.loc n) (.int 1) v J = .ok () (J.set n (.lst [a, v])) := by
  unfold setIx
  dsimp only
  rw [h]
  dsimp only
  rw [show ixN [a, b].length 1 = some 1 from rfl]
  rfl
theorem e_sub {fo fi : EF} : subT fo fi d ρ I = (fo ρ I).bindS fun o I1 => (fi ρ I1).bindS fun i I2 => (setIx o i d I2).bindS fun _ I3 => .nx ρ I3 := rfl
theorem set_get {n : Nat} {c c' : Cell} (h : J[n]? = some c) : (J.set n c')[n]? = some c' := by
  have := (List.getElem?_eq_some_iff.mp h).1
  simp [this]
end
end MP
/-! MXR: the places that may be dicts, at other values -/
namespace MP
open PySem PySem.Spec L2
section
variable {I : MH} {y : D}
@[simp] theorem o_ixDstr {s : List Nat} : ixDD (.str s) y I = ixD (.str s) y I := rfl
@[simp] theorem o_ixDtup {xs : List D} : ixDD (.tup xs) y I = ixD (.tup xs) y I := rfl
@[simp] theorem o_ixDlst {xs : List D} : ixDD (.lst xs) y I = ixD (.lst xs) y I := rfl
@[simp] theorem o_ixDscr {xs : List Int} : ixDD (.scr xs) y I = ixD (.scr xs) y I := rfl
theorem o_ixDloc {n : Nat} {xs : List D} (h : I[n]? = some (.lst xs)) : ixDD (.loc n) y I = ixD (.loc n) y I := by
  have e : dctOf I (.loc n) = none := by unfold dctOf; dsimp only; rw [h]
  unfold ixDD
  rw [e]
@[simp] theorem o_inDstr {b : Bool} {s : List Nat} : inDD b y (.str s) I = inB b y (.str s) I := rfl
@[simp] theorem o_inDtup {b : Bool} {xs : List D} : inDD b y (.tup xs) I = inB b y (.tup xs) I := rfl
@[simp] theorem o_inDlst {b : Bool} {xs : List D} : inDD b y (.lst xs) I = inB b y (.lst xs) I := rfl
end
end MP
/-! MXS: cells of lists, calls of methods, values without cells -/
namespace MP
open PySem PySem.Spec L2
section
variable {ρ : En} {I J : MH} {d x y z : D}
theorem o_trucell {n : Nat} {xs : List D} (h : J[n]? = some (.lst xs)) : truD (.loc n) J = .ok (!xs.isEmpty) J := by
  unfold truD seqOf; dsimp only; rw [h]
theorem o_tuplecell {n : Nat} {xs : List D} (h : J[n]? = some (.lst xs)) : tupleD [.loc n] J = .ok (.tup xs) J := by
  unfold tupleD lstOf; dsimp only; rw [h]
theorem o_lencell {n : Nat} {xs : List D} (h : J[n]? = some (.lst xs)) : lenD [.loc n] J = .ok (nI xs.length) J := by
  unfold lenD seqOf; dsimp only; rw [h]; rfl
@[simp] theorem o_lenlst {xs : List D} : lenD [.lst xs] J = .ok (nI xs.length) J := rfl
@[simp] theorem tru_bl {b : Bool} : truD (.bl b) I = .ok b I := rfl
@[simp] theorem o_add2 {a : Nat} : addD (nI a) (.int 2) I = .ok (nI (a + 2)) I := rfl
@[simp] theorem o_add4 {a : Nat} : addD (nI a) (.int 4) I = .ok (nI (a + 4)) I := rfl
theorem o_eqk {a k : Nat} : eqD (nI a) (.int ((k : Nat) : Int)) I = .ok (.bl (a == k)) I := o_eqn (b := k)
@[simp] theorem o_eqk0 {a : Nat} : eqD (nI a) (.int 0) I = .ok (.bl (a == 0)) I := o_eqk (k := 0)
@[simp] theorem o_eqk1 {a : Nat} : eqD (nI a) (.int 1) I = .ok (.bl (a == 1)) I := o_eqk (k := 1)
@[simp] theorem o_eqk2 {a : Nat} : eqD (nI a) (.int 2) I = .ok (.bl (a == 2)) I := o_eqk (k := 2)
@[simp] theorem o_eqk3 {a : Nat} : eqD (nI a) (.int 3) I = .ok (.bl (a == 3)) I := o_eqk (k := 3)
@[simp] theorem o_eqk5 {a : Nat} : eqD (nI a) (.int 5) I = .ok (.bl (a == 5)) I := o_eqk (k := 5)
@[simp] theorem o_eqk10 {a : Nat} : eqD (nI a) (.int 10) I = .ok (.bl (a == 10)) I := o_eqk (k := 10)
@[simp] theorem o_gt1 {a : Nat} : cmpI (fun i j => decide (j < i)) (nI a) (.int 1) I = .ok (.bl (decide (1 < a))) I := o_gtk (k := 1)
@[simp] theorem o_sub1 {a : Nat} : subD (nI (a + 1)) (.int 1) I = .ok (nI a) I := by
  show Res.ok (D.int (((a + 1 : Nat) : Int) - 1)) I = Res.ok (D.int (a : Int)) I
  rw [show (((a + 1 : Nat) : Int) - 1) = (a : Int) by omega]
theorem o_inDct {n : Nat} {kvs : List (KD × D)} {s : List Nat} (h : J[n]? = some (.dct kvs)) : inDD false (.str s) (.loc n) J = .ok (.bl (valD kvs (.inr s)).isSome) J := by
  unfold inDD dctOf; dsimp only; rw [h]; rfl
theorem o_ixDct {n : Nat} {kvs : List (KD × D)} {s : List Nat} (h : J[n]? = some (.dct kvs)) : ixDD (.loc n) (.str s) J = optR J (valD kvs (.inr s)) := by
  unfold ixDD dctOf; dsimp only; rw [h]; rfl
/-- a method's call, the object known -/
def callV (mt : Mtt) (m : Str) (fs : List EF) (x : D) : EF := fun ρ I1 => match insOf I1 x with
  | some (_, c, gs) => (match mt.lookup (c, m) with
    | some (n, F) => if (gs.lookup m).isNone then (seqA fs ρ I1).bind fun xs I2 => if xs.length + 1 = n then F (x :: xs) I2 else .stuck else .stuck
    | none => .stuck)
  | none => .stuck
theorem e_callM {mt : Mtt} {m : Str} {f : EF} {fs : List EF} : callM mt m f fs ρ I = (f ρ I).bind fun x I1 => callV mt m fs x ρ I1 := rfl
mutual
theorem cl_under {m : Nat} : ∀ {d : D}, d.under 0 = true → d.under m = true
  | .non, _ => by simp [D.under]
  | .bl _, _ => by simp [D.under]
  | .int _, _ => by simp [D.under]
  | .str _, _ => by simp [D.under]
  | .scr _, _ => by simp [D.under]
  | .loc n, h => by simp [D.under] at h
  | .tup xs, h => by rw [under_tup] at h ⊢; exact cls_under h
  | .lst xs, h => by rw [under_lst] at h ⊢; exact cls_under h
theorem cls_under {m : Nat} : ∀ {ds : List D}, unders 0 ds = true → unders m ds = true
  | [], _ => unders0
  | d :: ds, h => by
    rw [unders1] at h ⊢
    have h' := Bool.and_eq_true_iff.mp h
    rw [cl_under h'.1, cls_under h'.2]; rfl
end
theorem fin_cl (h : d.under 0 = true) {I' : MH} : fin I d I' = .ok d (trim I d I') := by
  unfold fin
  split
  · simp [D.under] at h
  · simp [D.under, unders] at h
  · rfl
end
end MP
/-! MXU: what is told compares; cuts and joins (from k07) -/
namespace MP
open PySem PySem.Spec L2
theorem shp_str {n : Nat} {s : List Nat} : shp n (.str s) = PyData.strOk (toS s) := by cases n <;> rfl
@[simp] theorem shp_int {n : Nat} {i : Int} : shp n (.int i) = true := by cases n <;> rfl
@[simp] theorem shp_n {n : Nat} {i : Nat} : shp n (nI i) = true := shp_int
@[simp] theorem shp_bl {n : Nat} {i : Bool} : shp n (.bl i) = true := by cases n <;> rfl
@[simp] theorem shp_non {n : Nat} : shp n .non = true := by cases n <;> rfl
@[simp] theorem shp_tup {n : Nat} {xs : List D} : shp (n + 1) (.tup xs) = shps n xs := rfl
@[simp] theorem shp_lst {n : Nat} {xs : List D} : shp (n + 1) (.lst xs) = shps n xs := rfl
@[simp] theorem shps_0 {n : Nat} : shps n [] = true := by cases n <;> rfl
@[simp] theorem shps_1 {n : Nat} {x : D} {xs : List D} : shps n (x :: xs) = (shp n x && shps n xs) := by cases n <;> rfl
theorem shps_app {n : Nat} : ∀ {xs ys : List D}, shps n (xs ++ ys) = (shps n xs && shps n ys)
  | [], ys => by simp
  | x :: xs, ys => by rw [List.cons_append, shps_1, shps_1, shps_app, Bool.and_assoc]
mutual
theorem shp_mono : ∀ {d : D} {n m : Nat}, shp n d = true → n ≤ m → shp m d = true
  | .non, _, _, _, _ => shp_non
  | .bl _, _, _, _, _ => shp_bl
  | .int _, _, _, _, _ => shp_int
  | .str s, n, m, h, _ => by rw [shp_str] at h ⊢; exact h
  | .tup xs, n, m, h, hl => by
    cases n with
    | zero => cases h
    | succ n =>
      obtain ⟨m, rfl⟩ : ∃ k, m = k + 1 := ⟨m - 1, by omega⟩
      rw [shp_tup] at h ⊢
      exact shps_mono h (by omega)
  | .lst xs, n, m, h, hl => by
    cases n with
    | zero => cases h
    | succ n =>
      obtain ⟨m, rfl⟩ : ∃ k, m = k + 1 := ⟨m - 1, by omega⟩
      rw [shp_lst] at h ⊢
      exact shps_mono h (by omega)
  | .scr _, n, _, h, _ => by cases n <;> cases h
  | .loc _, n, _, h, _ => by cases n <;> cases h
theorem shps_mono : ∀ {ds : List D} {n m : Nat}, shps n ds = true → n ≤ m → shps m ds = true
  | [], _, _, _, _ => shps_0
  | d :: ds, n, m, h, hl => by
    rw [shps_1] at h ⊢
    have h' := Bool.and_eq_true_iff.mp h
    rw [shp_mono h'.1 hl, shps_mono h'.2 hl]; rfl
end
mutual
theorem eqv_refl : ∀ {d : D} {n : Nat}, shp n d = true → eqvD d d = true
  | .non, _, _ => rfl
  | .bl _, _, _ => by simp [eqvD]
  | .int _, _, _ => by simp [eqvD]
  | .str s, n, h => by simp [eqvD]
  | .tup xs, n, h => by
    cases n with
    | zero => cases h
    | succ n => rw [shp_tup] at h; show eqvDs xs xs = true; exact eqvs_refl h
  | .lst xs, n, h => by
    cases n with
    | zero => cases h
    | succ n => rw [shp_lst] at h; show eqvDs xs xs = true; exact eqvs_refl h
  | .scr _, n, h => by cases n <;> cases h
  | .loc _, n, h => by cases n <;> cases h
theorem eqvs_refl : ∀ {ds : List D} {n : Nat}, shps n ds = true → eqvDs ds ds = true
  | [], _, _ => rfl
  | d :: ds, n, h => by
    rw [shps_1] at h
    have h' := Bool.and_eq_true_iff.mp h
    show (eqvD d d && eqvDs ds ds) = true
    rw [eqv_refl h'.1, eqvs_refl h'.2]; rfl
end
theorem o_eqrefl {d : D} {I : MH} (h : shp 64 d = true) : eqD d d I = .ok (.bl true) I := by
  unfold eqD cmpable
  rw [h, Bool.and_self, Bool.or_true, if_pos rfl, eqv_refl h]
end MP
namespace MP
open PySem PySem.Spec L2
section
variable {I J : MH}
def pcsD (ps : List (List Nat)) : D := .lst (ps.map D.str)
theorem cut_to {α : Type} {xs : List α} {k : Nat} : cutD xs none (some (k : Int)) = xs.take k := by
  unfold cutD
  rw [HT.sIx_none, HT.sIx_nat, List.drop_zero, Nat.sub_zero]
  by_cases h : k ≤ xs.length
  · rw [Nat.min_eq_left h]
  · rw [Nat.min_eq_right (by omega), List.take_length, List.take_of_length_le (by omega)]
theorem cut_from {α : Type} {xs : List α} {k : Nat} : cutD xs (some (k : Int)) none = xs.drop k := by
  unfold cutD
  rw [HT.sIx_none, HT.sIx_nat]
  by_cases h : k ≤ xs.length
  · rw [Nat.min_eq_left h, List.take_of_length_le (by rw [List.length_drop]; omega)]
  · rw [Nat.min_eq_right (by omega), List.drop_length, List.drop_of_length_le (by omega)]
    simp
theorem o_sll {xs : List D} {lo hi : Option Int} : slD (.lst xs) lo hi I = .ok (.lst (cutD xs lo hi)) I := rfl
theorem o_slto {ps : List (List Nat)} {k : Nat} : slD (pcsD ps) none (some (cI k)) I = .ok (pcsD (ps.take k)) I := by
  unfold pcsD
  rw [o_sll, show cI k = ((k : Nat) : Int) from rfl, cut_to, ← List.map_take]
theorem o_slfrom {ps : List (List Nat)} {k : Nat} : slD (pcsD ps) (some (cI k)) none I = .ok (pcsD (ps.drop k)) I := by
  unfold pcsD
  rw [o_sll, show cI k = ((k : Nat) : Int) from rfl, cut_from, ← List.map_drop]
theorem o_slfrom1 {ps : List (List Nat)} : slD (pcsD ps) (some 1) none I = .ok (pcsD (ps.drop 1)) I := o_slfrom (k := 1)
theorem o_addl {xs ys : List D} (h : xs.length + ys.length ≤ 16777216) : addD (.lst xs) (.lst ys) I = .ok (.lst (xs ++ ys)) I := by
  show (if small (xs.length + ys.length) then Res.ok (D.lst (xs ++ ys)) I else .stuck) = _
  rw [small_of h, if_pos rfl]
theorem o_addps {ps qs : List (List Nat)} (h : ps.length + qs.length ≤ 16777216) : addD (pcsD ps) (pcsD qs) I = .ok (pcsD (ps ++ qs)) I := by
  unfold pcsD
  rw [o_addl (by simpa using h), List.map_append]
theorem o_mulps {ps : List (List Nat)} {k : Nat} (h : ps.length * k ≤ 16777216) (hk : k ≤ 16777216) : mulSD (pcsD ps) (nI k) I = .ok (pcsD (List.replicate k ps).flatten) I := by
  have e : (cI k).toNat = k := by unfold cI; omega
  unfold pcsD nI mulSD
  dsimp only [lstOf]
  rw [e, List.length_map, small_of h, Bool.and_true, if_pos (decide_eq_true (by unfold cI; omega)), List.map_flatten, List.map_replicate]
theorem o_lenps {ps : List (List Nat)} : lenD [pcsD ps] I = .ok (nI ps.length) I := by
  show Res.ok (nI (ps.map D.str).length) I = _
  rw [List.length_map]
theorem o_ixps {ps : List (List Nat)} {d : Nat} (h : d < ps.length) : ixDD (pcsD ps) (nI d) I = .ok (.str ps[d]) I := by
  show ixD (.lst (ps.map D.str)) (nI d) I = _
  exact o_ixln (by rw [List.getElem?_map, List.getElem?_eq_getElem h]; rfl)
theorem strsOf_map : ∀ ps : List (List Nat), strsOf (ps.map D.str) = some ps
  | [] => rfl
  | p :: ps => by
    show (strsOf (ps.map D.str)).map (p :: ·) = _
    rw [strsOf_map ps]
    rfl
theorem o_join {ps : List (List Nat)} {s : List Nat} (h : (ps.map List.length).sum + s.length * ps.length ≤ 16777216) : joinD (.str s) [pcsD ps] I = .ok (.str (TL.joinL s ps)) I := by
  unfold pcsD joinD lstOf
  dsimp only [Option.bind]
  rw [strsOf_map]
  dsimp only
  rw [if_pos (decide_eq_true h)]
theorem sum_le {k : Nat} : ∀ {ps : List (List Nat)}, (∀ s ∈ ps, s.length ≤ k) → (ps.map List.length).sum ≤ k * ps.length
  | [], _ => by simp
  | p :: ps, h => by
    have h1 := sum_le (ps := ps) fun s hs => h s (List.mem_cons_of_mem _ hs)
    have h2 := h p List.mem_cons_self
    simp only [List.map_cons, List.sum_cons, List.length_cons]
    rw [Nat.mul_add, Nat.mul_one]
    omega
theorem join_len {s : List Nat} : ∀ ps : List (List Nat), (TL.joinL s ps).length ≤ (ps.map List.length).sum + s.length * ps.length
  | [] => by simp [TL.joinL]
  | [p] => by simp [TL.joinL]
  | p :: q :: r => by
    have h := join_len (s := s) (q :: r)
    simp only [TL.joinL, List.length_append, List.map_cons, List.sum_cons, List.length_cons, Nat.mul_add] at h ⊢
    omega
theorem join_mem {s : List Nat} {c : Nat} : ∀ ps : List (List Nat), c ∈ TL.joinL s ps → c ∈ s ∨ ∃ p ∈ ps, c ∈ p
  | [], h => by simp [TL.joinL] at h
  | [p], h => .inr ⟨p, List.mem_cons_self, h⟩
  | p :: q :: r, h => by
    simp only [TL.joinL, List.mem_append] at h
    rcases h with h | h | h
    · exact .inr ⟨p, List.mem_cons_self, h⟩
    · exact .inl h
    · rcases join_mem (q :: r) h with z | ⟨x, hx, hc⟩
      · exact .inl z
      · exact .inr ⟨x, List.mem_cons_of_mem _ hx, hc⟩
end
end MP
/-! K01: the text of the law, read (printed by gen2.py) -/
namespace K01
open PySem PySem.Spec L2 MP
def top (i : Nat) : Stmt := PySem.Challenge.pw_seamgraph_k01_types_and_names.main.body.getD i (.Pass ⟨0, 0, 0, 0⟩)
def t_NAM : List Nat := [97, 98, 99, 100, 101, 102, 103, 104, 105, 106, 107, 108, 109, 110, 111, 112, 113, 114, 115, 116, 117, 118, 119, 120, 121, 122, 65, 66, 67, 68, 69, 70, 71, 72, 73, 74, 75, 76, 77, 78, 79, 80, 81, 82, 83, 84, 85, 86, 87, 88, 89, 90, 48, 49, 50, 51, 52, 53, 54, 55, 56, 57, 95]
def t_LET : List Nat := [97, 98, 99, 100, 101, 102, 103, 104, 105, 106, 107, 108, 109, 110, 111, 112, 113, 114, 115, 116, 117, 118, 119, 120, 121, 122, 65, 66, 67, 68, 69, 70, 71, 72, 73, 74, 75, 76, 77, 78, 79, 80, 81, 82, 83, 84, 85, 86, 87, 88, 89, 90]
def t_Text : List Nat := [84, 101, 120, 116]
def t_Int : List Nat := [73, 110, 116]
def t_name : List Nat := [110, 97, 109, 101]
def t_list : List Nat := [108, 105, 115, 116]
def t_must : List Nat := [109, 117, 115, 116]
def tq_7 : List Nat := [33, 33]
def t_digu : List Nat := [48, 49, 50, 51, 52, 53, 54, 55, 56, 57, 95]
def t_Truth : List Nat := [84, 114, 117, 116, 104]
def tq_10 : List Nat := [32, 126]
def t_ref : List Nat := [114, 101, 102]
def t_meta : List Nat := [95, 116, 121, 112, 101]
def tq_13 : List Nat := [91, 93, 33, 33, 95, 57, 97, 32, 91, 93, 46, 65]
def T_cls : Clt := []
abbrev s_is_name : Stmt := top 11
abbrev N_is_name : List Str := ["text", "sign"]
abbrev P_is_name : List Str := ["text"]
theorem o_is_name : defOk N_is_name P_is_name (defScope s_is_name) = true := by decide +kernel
noncomputable def M_is_name : Mtt := []
noncomputable def b_is_name : SF := (seqS (ifS (orT (boolE (bin2 eqD (getV 0) (cV (.str [])))) (orT (boolE (bin2 (cmpI fun i j => decide (j < i)) (bltE lenD [(getV 0)]) (cV (.int 30)))) (boolE (bin2 (inDD true) (bin2 ixDD (getV 0) (cV (.int 0))) (cV (.str t_LET)))))) (seqS (retS (cV (.bl false))) nxS) nxS) (seqS (retS (genE true "" "is_name" (seqI (getV 0)) [1] (ctName 1) (bin2 (inDD false) (getV 1) (cV (.str t_NAM))))) nxS))
noncomputable def C_is_name : CC := { sc := defScope s_is_name, N := N_is_name, isDef := true, fns := [], cst := [("LETTERS", (.str t_LET)), ("MOST_NAME", (.int 30)), ("NAME_SIGNS", (.str t_NAM))], blt := ["all", "len"], mts := [], exs := [], cls := [], mth := M_is_name, mks := [], kds := [], tab := some ("", "is_name") }
theorem e_is_name : cSs 60 (C_is_name) (defBody s_is_name) = some (b_is_name) := by kernel_rfl
noncomputable def F_is_name : FF := runDef 2 b_is_name
abbrev s_is_text : Stmt := top 12
abbrev N_is_text : List Str := ["value", "sign"]
abbrev P_is_text : List Str := ["value"]
theorem o_is_text : defOk N_is_text P_is_text (defScope s_is_text) = true := by decide +kernel
noncomputable def M_is_text : Mtt := []
noncomputable def b_is_text : SF := (seqS (ifS (notT (truE (un1 (isiD "str") (getV 0)))) (seqS (retS (cV (.bl false))) nxS) nxS) (seqS (retS (genE true "" "is_text" (seqI (getV 0)) [1] (ctName 1) (andE (chain2 leS leS (cV (.str [32])) (getV 1) (cV (.str [126]))) (bin2 neD (bltE ordD [(getV 1)]) (cV (.int 37)))))) nxS))
noncomputable def C_is_text : CC := { sc := defScope s_is_text, N := N_is_text, isDef := true, fns := [], cst := [], blt := ["all", "isinstance", "ord", "str"], mts := [], exs := [], cls := [], mth := M_is_text, mks := [], kds := [], tab := some ("", "is_text") }
theorem e_is_text : cSs 60 (C_is_text) (defBody s_is_text) = some (b_is_text) := by kernel_rfl
noncomputable def F_is_text : FF := runDef 2 b_is_text
abbrev s_is_int : Stmt := top 13
abbrev N_is_int : List Str := ["value"]
abbrev P_is_int : List Str := ["value"]
theorem o_is_int : defOk N_is_int P_is_int (defScope s_is_int) = true := by decide +kernel
noncomputable def M_is_int : Mtt := []
noncomputable def b_is_int : SF := (seqS (retS (andE (un1 (isiD "int") (getV 0)) (un1 notB (un1 (isiD "bool") (getV 0))))) nxS)
noncomputable def C_is_int : CC := { sc := defScope s_is_int, N := N_is_int, isDef := true, fns := [], cst := [], blt := ["bool", "int", "isinstance"], mts := [], exs := [], cls := [], mth := M_is_int, mks := [], kds := [] }
theorem e_is_int : cSs 60 (C_is_int) (defBody s_is_int) = some (b_is_int) := by kernel_rfl
noncomputable def F_is_int : FF := runDef 1 b_is_int
abbrev s_fits : Stmt := top 14
abbrev N_fits : List Str := ["scalar", "value"]
abbrev P_fits : List Str := ["scalar", "value"]
theorem o_fits : defOk N_fits P_fits (defScope s_fits) = true := by decide +kernel
noncomputable def M_fits : Mtt := []
noncomputable def b_fits : SF := (seqS (ifS (boolE (bin2 eqD (getV 0) (cV (.str t_Int)))) (seqS (retS (andE (callE 1 F_is_int [(getV 1)]) (chain2 leS leS (cV (.int (-2147483648))) (getV 1) (cV (.int 2147483647))))) nxS) nxS) (seqS (ifS (boolE (bin2 eqD (getV 0) (cV (.str t_Text)))) (seqS (retS (callE 1 F_is_text [(getV 1)])) nxS) nxS) (seqS (retS (un1 (isiD "bool") (getV 1))) nxS)))
noncomputable def C_fits : CC := { sc := defScope s_fits, N := N_fits, isDef := true, fns := [("is_int", 1, F_is_int), ("is_text", 1, F_is_text)], cst := [("GREATEST_INT", (.int 2147483647)), ("LEAST_INT", (.int (-2147483648)))], blt := ["bool", "isinstance"], mts := [], exs := [], cls := [], mth := M_fits, mks := [], kds := [] }
theorem e_fits : cSs 60 (C_fits) (defBody s_fits) = some (b_fits) := by kernel_rfl
noncomputable def F_fits : FF := runDef 2 b_fits
abbrev s_parse_inner : Stmt := top 15
abbrev N_parse_inner : List Str := ["text", "depth", "kind"]
abbrev P_parse_inner : List Str := ["text", "depth"]
theorem o_parse_inner : defOk N_parse_inner P_parse_inner (defScope s_parse_inner) = true := by decide +kernel
noncomputable def M_parse_inner (G_parse_inner : FF) : Mtt := []
noncomputable def b_parse_inner (G_parse_inner : FF) : SF := (seqS (ifS (truE (methE isStr endswithD (getV 0) [(cV (.str [33]))])) (seqS (asgS (callE 2 G_parse_inner [(sliceE (getV 0) none (some (bin2 subD (bltE lenD [(getV 0)]) (cV (.int 1))))), (getV 1)]) (nameT 2)) (seqS (ifS (boolE (bin2 eqD (bin2 ixDD (getV 2) (cV (.int 0))) (cV (.str t_must)))) (seqS (raiseS "InvalidType" none (getV 0)) nxS) nxS) (seqS (retS (tupE [(cV (.str t_must)), (getV 2)])) nxS))) nxS) (seqS (ifS (andT (truE (methE isStr startswithD (getV 0) [(cV (.str [91]))])) (andT (truE (methE isStr endswithD (getV 0) [(cV (.str [93]))])) (boolE (bin2 (cmpI fun i j => decide (j < i)) (getV 1) (cV (.int 0)))))) (seqS (retS (tupE [(cV (.str t_list)), (callE 2 G_parse_inner [(sliceE (getV 0) (some (cV (.int 1))) (some (bin2 subD (bltE lenD [(getV 0)]) (cV (.int 1))))), (bin2 subD (getV 1) (cV (.int 1)))])])) nxS) nxS) (seqS (ifS (notT (truE (callE 1 F_is_name [(getV 0)]))) (seqS (raiseS "InvalidType" none (getV 0)) nxS) nxS) (seqS (retS (tupE [(cV (.str t_name)), (getV 0)])) nxS))))
noncomputable def C_parse_inner (G_parse_inner : FF) : CC := { sc := defScope s_parse_inner, N := N_parse_inner, isDef := true, fns := [("is_name", 1, F_is_name), ("parse_inner", 2, G_parse_inner)], cst := [], blt := ["len"], mts := [], exs := [("InvalidType", none)], cls := [], mth := M_parse_inner G_parse_inner, mks := [], kds := [] }
theorem e_parse_inner (G_parse_inner : FF) : cSs 60 (C_parse_inner G_parse_inner) (defBody s_parse_inner) = some (b_parse_inner G_parse_inner) := by kernel_rfl
noncomputable def W_parse_inner : Nat → Nat → FF
  | 0, _ => fun _ _ => .stuck
  | n + 1, i => match i with
    | 0 => runDef 3 (b_parse_inner (W_parse_inner n 0))
    | _ => fun _ _ => .stuck
noncomputable abbrev F_parse_inner : FF := W_parse_inner 60 0
abbrev s_parse_type : Stmt := top 16
abbrev N_parse_type : List Str := ["text"]
abbrev P_parse_type : List Str := ["text"]
theorem o_parse_type : defOk N_parse_type P_parse_type (defScope s_parse_type) = true := by decide +kernel
noncomputable def M_parse_type : Mtt := []
noncomputable def b_parse_type : SF := (seqS (ifS (truE (methE isStr endswithD (getV 0) [(cV (.str tq_7))])) (seqS (raiseS "InvalidType" none (getV 0)) nxS) nxS) (seqS (retS (callE 2 F_parse_inner [(getV 0), (cV (.int 5))])) nxS))
noncomputable def C_parse_type : CC := { sc := defScope s_parse_type, N := N_parse_type, isDef := true, fns := [("parse_inner", 2, F_parse_inner)], cst := [("MOST_LISTS", (.int 5))], blt := [], mts := [], exs := [("InvalidType", none)], cls := [], mth := M_parse_type, mks := [], kds := [] }
theorem e_parse_type : cSs 60 (C_parse_type) (defBody s_parse_type) = some (b_parse_type) := by kernel_rfl
noncomputable def F_parse_type : FF := runDef 1 b_parse_type
abbrev s_format_type : Stmt := top 17
abbrev N_format_type : List Str := ["kind"]
abbrev P_format_type : List Str := ["kind"]
theorem o_format_type : defOk N_format_type P_format_type (defScope s_format_type) = true := by decide +kernel
noncomputable def M_format_type (G_format_type : FF) : Mtt := []
noncomputable def b_format_type (G_format_type : FF) : SF := (seqS (ifS (boolE (bin2 eqD (bin2 ixDD (getV 0) (cV (.int 0))) (cV (.str t_name)))) (seqS (retS (bin2 ixDD (getV 0) (cV (.int 1)))) nxS) nxS) (seqS (ifS (boolE (bin2 eqD (bin2 ixDD (getV 0) (cV (.int 0))) (cV (.str t_list)))) (seqS (retS (bin2 addD (bin2 addD (cV (.str [91])) (callE 1 G_format_type [(bin2 ixDD (getV 0) (cV (.int 1)))])) (cV (.str [93])))) nxS) nxS) (seqS (retS (bin2 addD (callE 1 G_format_type [(bin2 ixDD (getV 0) (cV (.int 1)))]) (cV (.str [33])))) nxS)))
noncomputable def C_format_type (G_format_type : FF) : CC := { sc := defScope s_format_type, N := N_format_type, isDef := true, fns := [("format_type", 1, G_format_type)], cst := [], blt := [], mts := [], exs := [], cls := [], mth := M_format_type G_format_type, mks := [], kds := [] }
theorem e_format_type (G_format_type : FF) : cSs 60 (C_format_type G_format_type) (defBody s_format_type) = some (b_format_type G_format_type) := by kernel_rfl
noncomputable def W_format_type : Nat → Nat → FF
  | 0, _ => fun _ _ => .stuck
  | n + 1, i => match i with
    | 0 => runDef 1 (b_format_type (W_format_type n 0))
    | _ => fun _ _ => .stuck
noncomputable abbrev F_format_type : FF := W_format_type 60 0
abbrev s_base_of : Stmt := top 18
abbrev N_base_of : List Str := ["kind"]
abbrev P_base_of : List Str := ["kind"]
theorem o_base_of : defOk N_base_of P_base_of (defScope s_base_of) = true := by decide +kernel
noncomputable def M_base_of : Mtt := []
noncomputable def b_base_of : SF := (seqS (whileS (boolE (bin2 neD (bin2 ixDD (getV 0) (cV (.int 0))) (cV (.str t_name)))) (seqS (asgS (bin2 ixDD (getV 0) (cV (.int 1))) (nameT 0)) nxS)) (seqS (retS (bin2 ixDD (getV 0) (cV (.int 1)))) nxS))
noncomputable def C_base_of : CC := { sc := defScope s_base_of, N := N_base_of, isDef := true, fns := [], cst := [], blt := [], mts := [], exs := [], cls := [], mth := M_base_of, mks := [], kds := [] }
theorem e_base_of : cSs 60 (C_base_of) (defBody s_base_of) = some (b_base_of) := by kernel_rfl
noncomputable def F_base_of : FF := runDef 1 b_base_of
abbrev s_has_list : Stmt := top 19
abbrev N_has_list : List Str := ["kind"]
abbrev P_has_list : List Str := ["kind"]
theorem o_has_list : defOk N_has_list P_has_list (defScope s_has_list) = true := by decide +kernel
noncomputable def M_has_list : Mtt := []
noncomputable def b_has_list : SF := (seqS (whileS (boolE (bin2 neD (bin2 ixDD (getV 0) (cV (.int 0))) (cV (.str t_name)))) (seqS (ifS (boolE (bin2 eqD (bin2 ixDD (getV 0) (cV (.int 0))) (cV (.str t_list)))) (seqS (retS (cV (.bl true))) nxS) nxS) (seqS (asgS (bin2 ixDD (getV 0) (cV (.int 1))) (nameT 0)) nxS))) (seqS (retS (cV (.bl false))) nxS))
noncomputable def C_has_list : CC := { sc := defScope s_has_list, N := N_has_list, isDef := true, fns := [], cst := [], blt := [], mts := [], exs := [], cls := [], mth := M_has_list, mks := [], kds := [] }
theorem e_has_list : cSs 60 (C_has_list) (defBody s_has_list) = some (b_has_list) := by kernel_rfl
noncomputable def F_has_list : FF := runDef 1 b_has_list
abbrev s_l_is_integer : Stmt := top 21
abbrev N_l_is_integer : List Str := ["_law_actual"]
abbrev P_l_is_integer : List Str := ["_law_actual"]
theorem o_l_is_integer : defOk N_l_is_integer P_l_is_integer (defScope s_l_is_integer) = true := by decide +kernel
noncomputable def M_l_is_integer : Mtt := []
noncomputable def b_l_is_integer : SF := (seqS (retS (andE (un1 (isiD "int") (getV 0)) (un1 notB (un1 (isiD "bool") (getV 0))))) nxS)
noncomputable def C_l_is_integer : CC := { sc := defScope s_l_is_integer, N := N_l_is_integer, isDef := true, fns := [], cst := [], blt := ["bool", "int", "isinstance"], mts := [], exs := [], cls := [], mth := M_l_is_integer, mks := [], kds := [] }
theorem e_l_is_integer : cSs 60 (C_l_is_integer) (defBody s_l_is_integer) = some (b_l_is_integer) := by kernel_rfl
noncomputable def F_l_is_integer : FF := runDef 1 b_l_is_integer
abbrev s_l_refill : Stmt := top 22
abbrev N_l_refill : List Str := ["_law_script", "_law_k", "_law_cell"]
abbrev P_l_refill : List Str := ["_law_script", "_law_k"]
theorem o_l_refill : defOk N_l_refill P_l_refill (defScope s_l_refill) = true := by decide +kernel
noncomputable def M_l_refill : Mtt := []
noncomputable def b_l_refill : SF := (seqS (asgS (cV (.int 0)) (nameT 2)) (seqS (ifS (truE (getV 0)) (seqS (asgS (bin2 ixDD (getV 0) (bin2 modD (getV 1) (bltE lenD [(getV 0)]))) (nameT 2)) nxS) nxS) (seqS (ifS (boolE (bin2 ltS (getV 2) (cV (.int 0)))) (seqS (asgS (bin2 subD (cV (.int 1)) (bin2 mulSD (cV (.int 2)) (getV 2))) (nameT 2)) nxS) nxS) (seqS (ifS (andT (boolE (bin2 (cmpI fun i j => decide (j ≤ i)) (getV 2) (bin2 powD (cV (.int 10)) (cV (.int 18))))) (boolE (bin2 ltS (getV 1) (bltE lenD [(getV 0)])))) (seqS (retS (getV 2)) nxS) nxS) (seqS (retS (bin2 modD (bltE intD [(bin2 addD (bin2 mulSD (bltE intD [(bin2 addD (bin2 addD (bin2 mulSD (getV 2) (cV (.int 48271))) (bin2 mulSD (getV 1) (cV (.int 69621)))) (cV (.int 12345)))]) (cV (.int 40692))) (cV (.int 7)))]) (cV (.int 2147483399)))) nxS)))))
noncomputable def C_l_refill : CC := { sc := defScope s_l_refill, N := N_l_refill, isDef := true, fns := [], cst := [], blt := ["int", "len"], mts := [], exs := [], cls := [], mth := M_l_refill, mks := [], kds := [] }
theorem e_l_refill : cSs 60 (C_l_refill) (defBody s_l_refill) = some (b_l_refill) := by kernel_rfl
noncomputable def F_l_refill : FF := runDef 3 b_l_refill
abbrev s_l_draw : Stmt := top 23
abbrev N_l_draw : List Str := ["_law_state", "_law_script", "_law_size", "_law_digit"]
abbrev P_l_draw : List Str := ["_law_state", "_law_script", "_law_size"]
theorem o_l_draw : defOk N_l_draw P_l_draw (defScope s_l_draw) = true := by decide +kernel
noncomputable def M_l_draw : Mtt := []
noncomputable def b_l_draw : SF := (seqS (ifS (boolE (bin2 eqD (bin2 ixDD (getV 0) (cV (.int 1))) (cV (.int 0)))) (seqS (asgS (callE 2 F_l_refill [(getV 1), (bin2 ixDD (getV 0) (cV (.int 0)))]) (subT (getV 0) (cV (.int 1)))) (seqS (asgS (bin2 addD (bin2 ixDD (getV 0) (cV (.int 0))) (cV (.int 1))) (subT (getV 0) (cV (.int 0)))) nxS)) nxS) (seqS (asgS (bin2 modD (bltE intD [(bin2 ixDD (getV 0) (cV (.int 1)))]) (getV 2)) (nameT 3)) (seqS (asgS (bin2 fdivD (bin2 ixDD (getV 0) (cV (.int 1))) (getV 2)) (subT (getV 0) (cV (.int 1)))) (seqS (retS (getV 3)) nxS))))
noncomputable def C_l_draw : CC := { sc := defScope s_l_draw, N := N_l_draw, isDef := true, fns := [("_law_refill", 2, F_l_refill)], cst := [], blt := ["int"], mts := [], exs := [], cls := [], mth := M_l_draw, mks := [], kds := [] }
theorem e_l_draw : cSs 60 (C_l_draw) (defBody s_l_draw) = some (b_l_draw) := by kernel_rfl
noncomputable def F_l_draw : FF := runDef 4 b_l_draw
abbrev s_l_pick : Stmt := top 24
abbrev N_l_pick : List Str := ["_law_state", "_law_script", "_law_signs", "_law_k"]
abbrev P_l_pick : List Str := ["_law_state", "_law_script", "_law_signs"]
theorem o_l_pick : defOk N_l_pick P_l_pick (defScope s_l_pick) = true := by decide +kernel
noncomputable def M_l_pick : Mtt := []
noncomputable def b_l_pick : SF := (seqS (asgS (callE 3 F_l_draw [(getV 0), (getV 1), (bltE lenD [(getV 2)])]) (nameT 3)) (seqS (retS (sliceE (getV 2) (some (getV 3)) (some (bin2 addD (getV 3) (cV (.int 1)))))) nxS))
noncomputable def C_l_pick : CC := { sc := defScope s_l_pick, N := N_l_pick, isDef := true, fns := [("_law_draw", 3, F_l_draw)], cst := [], blt := ["len"], mts := [], exs := [], cls := [], mth := M_l_pick, mks := [], kds := [] }
theorem e_l_pick : cSs 60 (C_l_pick) (defBody s_l_pick) = some (b_l_pick) := by kernel_rfl
noncomputable def F_l_pick : FF := runDef 4 b_l_pick
abbrev s_l_name : Stmt := top 25
abbrev N_l_name : List Str := ["_law_state", "_law_script", "_law_letters", "_law_count", "_law_k"]
abbrev P_l_name : List Str := ["_law_state", "_law_script"]
theorem o_l_name : defOk N_l_name P_l_name (defScope s_l_name) = true := by decide +kernel
noncomputable def M_l_name : Mtt := []
noncomputable def b_l_name : SF := (seqS (asgS (cV (.str t_LET)) (nameT 2)) (seqS (asgS (bin2 ixDD (lstE [(callE 3 F_l_draw [(getV 0), (getV 1), (cV (.int 4))]), (bin2 addD (cV (.int 28)) (callE 3 F_l_draw [(getV 0), (getV 1), (cV (.int 4))]))]) (callE 3 F_l_draw [(getV 0), (getV 1), (cV (.int 2))])) (nameT 3)) (seqS (retS (bin2 addD (callE 3 F_l_pick [(getV 0), (getV 1), (getV 2)]) (methE isStr joinD (cV (.str [])) [(lcE (rng1I (getV 3)) [4] (ctName 4) yesT (callE 3 F_l_pick [(getV 0), (getV 1), (bin2 addD (getV 2) (cV (.str t_digu)))]))]))) nxS)))
noncomputable def C_l_name : CC := { sc := defScope s_l_name, N := N_l_name, isDef := true, fns := [("_law_draw", 3, F_l_draw), ("_law_pick", 3, F_l_pick)], cst := [], blt := ["range"], mts := [], exs := [], cls := [], mth := M_l_name, mks := [], kds := [] }
theorem e_l_name : cSs 60 (C_l_name) (defBody s_l_name) = some (b_l_name) := by kernel_rfl
noncomputable def F_l_name : FF := runDef 5 b_l_name
abbrev s_l_is_name : Stmt := top 26
abbrev N_l_is_name : List Str := ["_law_text", "_law_letters", "_law_sign"]
abbrev P_l_is_name : List Str := ["_law_text"]
theorem o_l_is_name : defOk N_l_is_name P_l_is_name (defScope s_l_is_name) = true := by decide +kernel
noncomputable def M_l_is_name : Mtt := []
noncomputable def b_l_is_name : SF := (seqS (asgS (cV (.str t_LET)) (nameT 1)) (seqS (ifS (orT (boolE (bin2 ltS (bltE lenD [(getV 0)]) (cV (.int 1)))) (orT (boolE (bin2 (cmpI fun i j => decide (j < i)) (bltE lenD [(getV 0)]) (cV (.int 30)))) (boolE (bin2 (inDD true) (bin2 ixDD (getV 0) (cV (.int 0))) (getV 1))))) (seqS (retS (cV (.bl false))) nxS) nxS) (seqS (retS (bltE allD [(lcE (seqI (getV 0)) [2] (ctName 2) yesT (bin2 (inDD false) (getV 2) (bin2 addD (getV 1) (cV (.str t_digu)))))])) nxS)))
noncomputable def C_l_is_name : CC := { sc := defScope s_l_is_name, N := N_l_is_name, isDef := true, fns := [], cst := [], blt := ["all", "len"], mts := [], exs := [], cls := [], mth := M_l_is_name, mks := [], kds := [] }
theorem e_l_is_name : cSs 60 (C_l_is_name) (defBody s_l_is_name) = some (b_l_is_name) := by kernel_rfl
noncomputable def F_l_is_name : FF := runDef 3 b_l_is_name
abbrev s_l_parsed : Stmt := top 27
abbrev N_l_parsed : List Str := ["_law_text", "_law_depth", "_law_inner"]
abbrev P_l_parsed : List Str := ["_law_text", "_law_depth"]
theorem o_l_parsed : defOk N_l_parsed P_l_parsed (defScope s_l_parsed) = true := by decide +kernel
noncomputable def M_l_parsed (G_l_parsed : FF) : Mtt := []
noncomputable def b_l_parsed (G_l_parsed : FF) : SF := (seqS (ifS (boolE (bin2 eqD (sliceE (getV 0) (some (un1 negD (cV (.int 1)))) none) (cV (.str [33])))) (seqS (asgS (callE 2 G_l_parsed [(sliceE (getV 0) none (some (un1 negD (cV (.int 1))))), (getV 1)]) (nameT 2)) (seqS (ifS (orT (boolE (bin2 (isB false) (getV 2) (cV .non))) (boolE (bin2 eqD (bin2 ixDD (getV 2) (cV (.int 0))) (cV (.str t_must))))) (seqS (retS (cV .non)) nxS) nxS) (seqS (retS (tupE [(cV (.str t_must)), (getV 2)])) nxS))) nxS) (seqS (ifS (andT (boolE (bin2 eqD (sliceE (getV 0) none (some (cV (.int 1)))) (cV (.str [91])))) (andT (boolE (bin2 eqD (sliceE (getV 0) (some (un1 negD (cV (.int 1)))) none) (cV (.str [93])))) (boolE (bin2 ltS (getV 1) (cV (.int 5)))))) (seqS (asgS (callE 2 G_l_parsed [(sliceE (getV 0) (some (cV (.int 1))) (some (un1 negD (cV (.int 1))))), (bin2 addD (getV 1) (cV (.int 1)))]) (nameT 2)) (seqS (ifS (boolE (bin2 (isB false) (getV 2) (cV .non))) (seqS (retS (cV .non)) nxS) nxS) (seqS (retS (tupE [(cV (.str t_list)), (getV 2)])) nxS))) nxS) (seqS (ifS (truE (callE 1 F_l_is_name [(getV 0)])) (seqS (retS (tupE [(cV (.str t_name)), (getV 0)])) nxS) nxS) (seqS (retS (cV .non)) nxS))))
noncomputable def C_l_parsed (G_l_parsed : FF) : CC := { sc := defScope s_l_parsed, N := N_l_parsed, isDef := true, fns := [("_law_is_name", 1, F_l_is_name), ("_law_parsed", 2, G_l_parsed)], cst := [], blt := [], mts := [], exs := [], cls := [], mth := M_l_parsed G_l_parsed, mks := [], kds := [] }
theorem e_l_parsed (G_l_parsed : FF) : cSs 60 (C_l_parsed G_l_parsed) (defBody s_l_parsed) = some (b_l_parsed G_l_parsed) := by kernel_rfl
noncomputable def W_l_parsed : Nat → Nat → FF
  | 0, _ => fun _ _ => .stuck
  | n + 1, i => match i with
    | 0 => runDef 3 (b_l_parsed (W_l_parsed n 0))
    | _ => fun _ _ => .stuck
noncomputable abbrev F_l_parsed : FF := W_l_parsed 60 0
abbrev s_l_told : Stmt := top 28
abbrev N_l_told : List Str := ["_law_text", "e"]
abbrev P_l_told : List Str := ["_law_text"]
theorem o_l_told : defOk N_l_told P_l_told (defScope s_l_told) = true := by decide +kernel
noncomputable def M_l_told : Mtt := []
noncomputable def b_l_told : SF := (seqS (retS (callE 1 F_parse_type [(getV 0)])) nxS)
noncomputable def C_l_told : CC := { sc := defScope s_l_told, N := N_l_told, isDef := true, fns := [("parse_type", 1, F_parse_type)], cst := [], blt := [], mts := [], exs := [], cls := [], mth := M_l_told, mks := [], kds := [] }
theorem e_l_told : cSs 60 (C_l_told) (tryB (defBody s_l_told)) = some (b_l_told) := by kernel_rfl
noncomputable def F_l_told : FF := runDef 2 (seqS (tryS "InvalidType" (sdNone .non) b_l_told) nxS)
abbrev s_l_fits : Stmt := top 29
abbrev N_l_fits : List Str := ["_law_scalar", "_law_value", "_law_sign"]
abbrev P_l_fits : List Str := ["_law_scalar", "_law_value"]
theorem o_l_fits : defOk N_l_fits P_l_fits (defScope s_l_fits) = true := by decide +kernel
noncomputable def M_l_fits : Mtt := []
noncomputable def b_l_fits : SF := (seqS (ifS (boolE (bin2 eqD (getV 0) (cV (.str t_Int)))) (seqS (retS (andE (callE 1 F_l_is_integer [(getV 1)]) (chain2 leS leS (un1 negD (cV (.int 2147483648))) (getV 1) (cV (.int 2147483647))))) nxS) nxS) (seqS (ifS (boolE (bin2 eqD (getV 0) (cV (.str t_Text)))) (seqS (retS (andE (un1 (isiD "str") (getV 1)) (bltE allD [(lcE (seqI (getV 1)) [2] (ctName 2) yesT (andE (chain2 leS leS (cV (.int 32)) (bltE ordD [(getV 2)]) (cV (.int 126))) (bin2 neD (bltE ordD [(getV 2)]) (cV (.int 37)))))]))) nxS) nxS) (seqS (retS (un1 (isiD "bool") (getV 1))) nxS)))
noncomputable def C_l_fits : CC := { sc := defScope s_l_fits, N := N_l_fits, isDef := true, fns := [("_law_is_integer", 1, F_l_is_integer)], cst := [], blt := ["all", "bool", "isinstance", "ord", "str"], mts := [], exs := [], cls := [], mth := M_l_fits, mks := [], kds := [] }
theorem e_l_fits : cSs 60 (C_l_fits) (defBody s_l_fits) = some (b_l_fits) := by kernel_rfl
noncomputable def F_l_fits : FF := runDef 3 b_l_fits
abbrev s_law : Stmt := top 30
abbrev N_law : List Str := ["_law_script", "_law_state", "_law_name_here", "_law_kind", "_law_text", "_law_lists", "_law_k", "_law_at", "_law_sign", "_law_one", "_law_edges", "_law_scalar", "_law_value"]
abbrev P_law : List Str := ["_law_script"]
theorem o_law : defOk N_law P_law (defScope s_law) = true := by decide +kernel
noncomputable def M_law : Mtt := []
noncomputable def lb_law_1 : SF := (seqS (ifS (andT (boolE (bin2 eqD (callE 3 F_l_draw [(getV 1), (getV 0), (cV (.int 2))]) (cV (.int 1)))) (boolE (bin2 neD (bin2 ixDD (getV 3) (cV (.int 0))) (cV (.str t_must))))) (seqS (asgS (tupE [(cV (.str t_must)), (getV 3)]) (nameT 3)) (seqS (asgS (bin2 addD (getV 4) (cV (.str [33]))) (nameT 4)) nxS)) nxS) (seqS (asgS (tupE [(cV (.str t_list)), (getV 3)]) (nameT 3)) (seqS (asgS (bin2 addD (bin2 addD (cV (.str [91])) (getV 4)) (cV (.str [93]))) (nameT 4)) (seqS (asgS (bin2 addD (getV 5) (cV (.int 1))) (nameT 5)) nxS))))
noncomputable def lb_law_2 : SF := (seqS (asgS (callE 3 F_l_draw [(getV 1), (getV 0), (bin2 addD (bltE lenD [(getV 4)]) (cV (.int 1)))]) (nameT 7)) (seqS (asgS (callE 3 F_l_pick [(getV 1), (getV 0), (cV (.str tq_13))]) (nameT 8)) (seqS (asgS (bin2 addD (bin2 addD (sliceE (getV 4) none (some (getV 7))) (bin2 ixDD (lstE [(getV 8), (cV (.str [])), (bin2 addD (getV 8) (getV 8))]) (callE 3 F_l_draw [(getV 1), (getV 0), (cV (.int 3))]))) (sliceE (getV 4) (some (bin2 addD (getV 7) (callE 3 F_l_draw [(getV 1), (getV 0), (cV (.int 2))]))) none)) (nameT 4)) nxS)))
noncomputable def lb_law_3 : SF := (seqS (ifS (orT (boolE (bin2 neD (callE 1 F_is_name [(getV 9)]) (callE 1 F_l_is_name [(getV 9)]))) (notT (truE (un1 (isiD "bool") (callE 1 F_is_name [(getV 9)]))))) (seqS (retS (cV (.bl false))) nxS) nxS) nxS)
noncomputable def lb_law_5 : SF := (seqS (ifS (orT (boolE (bin2 neD (callE 2 F_fits [(getV 11), (getV 12)]) (callE 2 F_l_fits [(getV 11), (getV 12)]))) (notT (truE (un1 (isiD "bool") (callE 2 F_fits [(getV 11), (getV 12)]))))) (seqS (retS (cV (.bl false))) nxS) nxS) nxS)
noncomputable def lb_law_4 : SF := (seqS (forS (seqI (bin2 addD (getV 10) (lstE [(callE 3 F_l_draw [(getV 1), (getV 0), (bin2 shlD (cV (.int 1)) (cV (.int 40)))]), (getV 4)]))) (nameT 12) lb_law_5) nxS)
noncomputable def sb_law_1 : SF := (asgS (lstM [(cV (.int 0)), (cV (.int 0))]) (nameT 1))
noncomputable def sb_law_2 : SF := (asgS (callE 2 F_l_name [(getV 1), (getV 0)]) (nameT 2))
noncomputable def sb_law_3 : SF := (asgS (tupE [(cV (.str t_name)), (sliceE (getV 2) none (some (cV (.int 30))))]) (nameT 3))
noncomputable def sb_law_4 : SF := (asgS (sliceE (getV 2) none (some (cV (.int 30)))) (nameT 4))
noncomputable def sb_law_5 : SF := (asgS (cV (.int 0)) (nameT 5))
noncomputable def sb_law_6 : SF := (forS (rng1I (callE 3 F_l_draw [(getV 1), (getV 0), (cV (.int 6))])) (nameT 6) lb_law_1)
noncomputable def sb_law_7 : SF := (ifS (andT (boolE (bin2 eqD (callE 3 F_l_draw [(getV 1), (getV 0), (cV (.int 2))]) (cV (.int 1)))) (boolE (bin2 neD (bin2 ixDD (getV 3) (cV (.int 0))) (cV (.str t_must))))) (seqS (asgS (tupE [(cV (.str t_must)), (getV 3)]) (nameT 3)) (seqS (asgS (bin2 addD (getV 4) (cV (.str [33]))) (nameT 4)) nxS)) nxS)
noncomputable def sb_law_8 : SF := (ifS (orT (boolE (bin2 neD (callE 1 F_parse_type [(getV 4)]) (getV 3))) (orT (boolE (bin2 neD (callE 1 F_format_type [(getV 3)]) (getV 4))) (boolE (bin2 neD (callE 1 F_base_of [(getV 3)]) (sliceE (getV 2) none (some (cV (.int 30)))))))) (seqS (retS (cV (.bl false))) nxS) nxS)
noncomputable def sb_law_9 : SF := (ifS (orT (boolE (bin2 neD (callE 1 F_has_list [(getV 3)]) (bin2 (cmpI fun i j => decide (j < i)) (getV 5) (cV (.int 0))))) (notT (truE (un1 (isiD "bool") (callE 1 F_has_list [(getV 3)]))))) (seqS (retS (cV (.bl false))) nxS) nxS)
noncomputable def sb_law_10 : SF := (forS (rng1I (callE 3 F_l_draw [(getV 1), (getV 0), (cV (.int 3))])) (nameT 6) lb_law_2)
noncomputable def sb_law_11 : SF := (ifS (boolE (bin2 neD (callE 1 F_l_told [(getV 4)]) (callE 2 F_l_parsed [(getV 4), (cV (.int 0))]))) (seqS (retS (cV (.bl false))) nxS) nxS)
noncomputable def sb_law_12 : SF := (forS (seqI (lstE [(getV 4), (getV 2), (bin2 addD (getV 2) (cV (.str [95]))), (cV (.str t_meta)), (cV (.str []))])) (nameT 9) lb_law_3)
noncomputable def sb_law_13 : SF := (asgS (lstE [(cV .non), (cV (.bl true)), (cV (.bl false)), (cV (.int 0)), (un1 negD (cV (.int 2147483648))), (un1 negD (cV (.int 2147483649))), (cV (.int 2147483647)), (cV (.int 2147483648)), (cV (.str [])), (cV (.str tq_10)), (cV (.str [10])), (lstE []), (lstE [(cV (.int 1))]), (tupE [(cV (.str t_ref)), (cV (.str [65])), (cV (.int 1))]), dict0E]) (nameT 10))
noncomputable def sb_law_14 : SF := (forS (seqI (lstE [(cV (.str t_Int)), (cV (.str t_Text)), (cV (.str t_Truth))])) (nameT 11) lb_law_4)
noncomputable def sb_law_15 : SF := (retS (cV (.bl true)))
noncomputable def b_law : SF := (seqS sb_law_1 (seqS sb_law_2 (seqS sb_law_3 (seqS sb_law_4 (seqS sb_law_5 (seqS sb_law_6 (seqS sb_law_7 (seqS sb_law_8 (seqS sb_law_9 (seqS sb_law_10 (seqS sb_law_11 (seqS sb_law_12 (seqS sb_law_13 (seqS sb_law_14 (seqS sb_law_15 nxS)))))))))))))))
noncomputable def C_law : CC := { sc := defScope s_law, N := N_law, isDef := true, fns := [("_law_draw", 3, F_l_draw), ("_law_fits", 2, F_l_fits), ("_law_is_name", 1, F_l_is_name), ("_law_name", 2, F_l_name), ("_law_parsed", 2, F_l_parsed), ("_law_pick", 3, F_l_pick), ("_law_told", 1, F_l_told), ("base_of", 1, F_base_of), ("fits", 2, F_fits), ("format_type", 1, F_format_type), ("has_list", 1, F_has_list), ("is_name", 1, F_is_name), ("parse_type", 1, F_parse_type)], cst := [], blt := ["bool", "isinstance", "len", "range"], mts := ["_law_state"], exs := [], cls := [], mth := M_law, mks := [], kds := [] }
theorem e_law : cSs 60 (C_law) (defBody s_law) = some (b_law) := by kernel_rfl
noncomputable def F_law : FF := runDef 13 b_law
structure Facts (P : Program) (w : World) (K : PySem.W.Frag) (mg : Str → Option Value) (base : Heap) (C fI cc cda S Ow0 : Addr) : Prop where
  t_is_name : FunT K mg "is_name" "is_name" s_is_name P_is_name
  t_is_text : FunT K mg "is_text" "is_text" s_is_text P_is_text
  t_is_int : FunT K mg "is_int" "is_int" s_is_int P_is_int
  t_fits : FunT K mg "fits" "fits" s_fits P_fits
  t_parse_inner : FunT K mg "parse_inner" "parse_inner" s_parse_inner P_parse_inner
  t_parse_type : FunT K mg "parse_type" "parse_type" s_parse_type P_parse_type
  t_format_type : FunT K mg "format_type" "format_type" s_format_type P_format_type
  t_base_of : FunT K mg "base_of" "base_of" s_base_of P_base_of
  t_has_list : FunT K mg "has_list" "has_list" s_has_list P_has_list
  t_l_is_integer : FunT K mg "_law_is_integer" "_law_is_integer" s_l_is_integer P_l_is_integer
  t_l_refill : FunT K mg "_law_refill" "_law_refill" s_l_refill P_l_refill
  t_l_draw : FunT K mg "_law_draw" "_law_draw" s_l_draw P_l_draw
  t_l_pick : FunT K mg "_law_pick" "_law_pick" s_l_pick P_l_pick
  t_l_name : FunT K mg "_law_name" "_law_name" s_l_name P_l_name
  t_l_is_name : FunT K mg "_law_is_name" "_law_is_name" s_l_is_name P_l_is_name
  t_l_parsed : FunT K mg "_law_parsed" "_law_parsed" s_l_parsed P_l_parsed
  t_l_told : FunT K mg "_law_told" "_law_told" s_l_told P_l_told
  t_l_fits : FunT K mg "_law_fits" "_law_fits" s_l_fits P_l_fits
  c_GREATEST_INT : CstOk K mg "GREATEST_INT" (.int 2147483647)
  c_LEAST_INT : CstOk K mg "LEAST_INT" (.int (-2147483648))
  c_LETTERS : CstOk K mg "LETTERS" (.str t_LET)
  c_MOST_LISTS : CstOk K mg "MOST_LISTS" (.int 5)
  c_MOST_NAME : CstOk K mg "MOST_NAME" (.int 30)
  c_NAME_SIGNS : CstOk K mg "NAME_SIGNS" (.str t_NAM)
  b_all : mg "all" = none
  b_bool : mg "bool" = none
  b_int : mg "int" = none
  b_isinstance : mg "isinstance" = none
  b_len : mg "len" = none
  b_ord : mg "ord" = none
  b_range : mg "range" = none
  b_str : mg "str" = none
  b_ValueError : mg "ValueError" = none
  x_InvalidType : OwTxt K mg "InvalidType" Ow0
  xe_InvalidType : ExcD K Ow0
  xm_InvalidType : PySem.W.exmOne K (.ref Ow0) (.ref Ow0) = some true
  xs_InvalidType : PySem.W.kitOne K (.ref Ow0) (.ref S) = some true
  xv_InvalidType : PySem.W.kitOne K (.ref Ow0) (.type "ValueError") = some true
  q_is_name : TabX K mg base "is_name"
  q_is_text : TabX K mg base "is_text"
  g_S : mg "SeamError" = some (.ref S)
section
variable {P : Program} {w : World} {K : PySem.W.Frag} {mg : Str → Option Value} {base : Heap} {C fI cc cda S Ow0 : Addr}
theorem sim_is_name (F : Facts P w K mg base C fI cc cda S Ow0) : FnSim P w K mg base 2 "is_name" 1 F_is_name :=
  sim_mkT (k := 0) (C := C_is_name) (fntt F.t_is_name F.q_is_name) o_is_name ⟨rfl, rfl⟩ e_is_name ⟨rfl, rfl⟩ ⟨trivial, ⟨F.c_LETTERS, F.c_MOST_NAME, F.c_NAME_SIGNS, trivial⟩, ⟨F.b_all, F.b_len, trivial⟩, trivial, trivial, trivial, trivial, trivial⟩
theorem sim_is_text (F : Facts P w K mg base C fI cc cda S Ow0) : FnSim P w K mg base 2 "is_text" 1 F_is_text :=
  sim_mkT (k := 0) (C := C_is_text) (fntt F.t_is_text F.q_is_text) o_is_text ⟨rfl, rfl⟩ e_is_text ⟨rfl, rfl⟩ ⟨trivial, trivial, ⟨F.b_all, F.b_isinstance, F.b_ord, F.b_str, trivial⟩, trivial, trivial, trivial, trivial, trivial⟩
theorem sim_is_int (F : Facts P w K mg base C fI cc cda S Ow0) : FnSim P w K mg base 1 "is_int" 1 F_is_int :=
  sim_mk (k := 0) (C := C_is_int) F.t_is_int o_is_int ⟨rfl, rfl⟩ e_is_int ⟨rfl, rfl⟩ ⟨trivial, trivial, ⟨F.b_bool, F.b_int, F.b_isinstance, trivial⟩, trivial, trivial, trivial, trivial, trivial⟩
theorem sim_fits (F : Facts P w K mg base C fI cc cda S Ow0) : FnSim P w K mg base 3 "fits" 2 F_fits :=
  sim_mk (k := 2) (C := C_fits) F.t_fits o_fits ⟨rfl, rfl⟩ e_fits ⟨rfl, rfl⟩ ⟨⟨((sim_is_int F).mono (by decide)), ((sim_is_text F).mono (by decide)), trivial⟩, ⟨F.c_GREATEST_INT, F.c_LEAST_INT, trivial⟩, ⟨F.b_bool, F.b_isinstance, trivial⟩, trivial, trivial, trivial, trivial, trivial⟩
theorem sims_parse_inner (F : Facts P w K mg base C fI cc cda S Ow0) : ∀ n : Nat, FnSim P w K mg base (2 + n) "parse_inner" 2 (W_parse_inner n 0)
  | 0 => fn_stuck F.t_parse_inner rfl
  | n + 1 => by
    obtain h0 := sims_parse_inner F n
    exact sim_mk (k := 2 + n) (C := C_parse_inner (W_parse_inner n 0)) F.t_parse_inner o_parse_inner ⟨rfl, rfl⟩ (e_parse_inner _) ⟨rfl, rfl⟩ ⟨⟨((sim_is_name F).mono (by omega)), h0, trivial⟩, trivial, ⟨F.b_len, trivial⟩, ⟨raise_ow F.x_InvalidType (by decide), trivial⟩, trivial, trivial, trivial, trivial⟩
theorem sim_parse_inner (F : Facts P w K mg base C fI cc cda S Ow0) : FnSim P w K mg base 62 "parse_inner" 2 F_parse_inner := (sims_parse_inner F 60)
theorem sim_parse_type (F : Facts P w K mg base C fI cc cda S Ow0) : FnSim P w K mg base 63 "parse_type" 1 F_parse_type :=
  sim_mk (k := 62) (C := C_parse_type) F.t_parse_type o_parse_type ⟨rfl, rfl⟩ e_parse_type ⟨rfl, rfl⟩ ⟨⟨((sim_parse_inner F).mono (by decide)), trivial⟩, ⟨F.c_MOST_LISTS, trivial⟩, trivial, ⟨raise_ow F.x_InvalidType (by decide), trivial⟩, trivial, trivial, trivial, trivial⟩
theorem sims_format_type (F : Facts P w K mg base C fI cc cda S Ow0) : ∀ n : Nat, FnSim P w K mg base (0 + n) "format_type" 1 (W_format_type n 0)
  | 0 => fn_stuck F.t_format_type rfl
  | n + 1 => by
    obtain h0 := sims_format_type F n
    exact sim_mk (k := 0 + n) (C := C_format_type (W_format_type n 0)) F.t_format_type o_format_type ⟨rfl, rfl⟩ (e_format_type _) ⟨rfl, rfl⟩ ⟨⟨h0, trivial⟩, trivial, trivial, trivial, trivial, trivial, trivial, trivial⟩
theorem sim_format_type (F : Facts P w K mg base C fI cc cda S Ow0) : FnSim P w K mg base 60 "format_type" 1 F_format_type := (sims_format_type F 60)
theorem sim_base_of (F : Facts P w K mg base C fI cc cda S Ow0) : FnSim P w K mg base 1 "base_of" 1 F_base_of :=
  sim_mk (k := 0) (C := C_base_of) F.t_base_of o_base_of ⟨rfl, rfl⟩ e_base_of ⟨rfl, rfl⟩ ⟨trivial, trivial, trivial, trivial, trivial, trivial, trivial, trivial⟩
theorem sim_has_list (F : Facts P w K mg base C fI cc cda S Ow0) : FnSim P w K mg base 1 "has_list" 1 F_has_list :=
  sim_mk (k := 0) (C := C_has_list) F.t_has_list o_has_list ⟨rfl, rfl⟩ e_has_list ⟨rfl, rfl⟩ ⟨trivial, trivial, trivial, trivial, trivial, trivial, trivial, trivial⟩
theorem sim_l_is_integer (F : Facts P w K mg base C fI cc cda S Ow0) : FnSim P w K mg base 1 "_law_is_integer" 1 F_l_is_integer :=
  sim_mk (k := 0) (C := C_l_is_integer) F.t_l_is_integer o_l_is_integer ⟨rfl, rfl⟩ e_l_is_integer ⟨rfl, rfl⟩ ⟨trivial, trivial, ⟨F.b_bool, F.b_int, F.b_isinstance, trivial⟩, trivial, trivial, trivial, trivial, trivial⟩
theorem sim_l_refill (F : Facts P w K mg base C fI cc cda S Ow0) : FnSim P w K mg base 1 "_law_refill" 2 F_l_refill :=
  sim_mk (k := 0) (C := C_l_refill) F.t_l_refill o_l_refill ⟨rfl, rfl⟩ e_l_refill ⟨rfl, rfl⟩ ⟨trivial, trivial, ⟨F.b_int, F.b_len, trivial⟩, trivial, trivial, trivial, trivial, trivial⟩
theorem sim_l_draw (F : Facts P w K mg base C fI cc cda S Ow0) : FnSim P w K mg base 2 "_law_draw" 3 F_l_draw :=
  sim_mk (k := 1) (C := C_l_draw) F.t_l_draw o_l_draw ⟨rfl, rfl⟩ e_l_draw ⟨rfl, rfl⟩ ⟨⟨((sim_l_refill F).mono (by decide)), trivial⟩, trivial, ⟨F.b_int, trivial⟩, trivial, trivial, trivial, trivial, trivial⟩
theorem sim_l_pick (F : Facts P w K mg base C fI cc cda S Ow0) : FnSim P w K mg base 3 "_law_pick" 3 F_l_pick :=
  sim_mk (k := 2) (C := C_l_pick) F.t_l_pick o_l_pick ⟨rfl, rfl⟩ e_l_pick ⟨rfl, rfl⟩ ⟨⟨((sim_l_draw F).mono (by decide)), trivial⟩, trivial, ⟨F.b_len, trivial⟩, trivial, trivial, trivial, trivial, trivial⟩
theorem sim_l_name (F : Facts P w K mg base C fI cc cda S Ow0) : FnSim P w K mg base 4 "_law_name" 2 F_l_name :=
  sim_mk (k := 3) (C := C_l_name) F.t_l_name o_l_name ⟨rfl, rfl⟩ e_l_name ⟨rfl, rfl⟩ ⟨⟨((sim_l_draw F).mono (by decide)), ((sim_l_pick F).mono (by decide)), trivial⟩, trivial, ⟨F.b_range, trivial⟩, trivial, trivial, trivial, trivial, trivial⟩
theorem sim_l_is_name (F : Facts P w K mg base C fI cc cda S Ow0) : FnSim P w K mg base 1 "_law_is_name" 1 F_l_is_name :=
  sim_mk (k := 0) (C := C_l_is_name) F.t_l_is_name o_l_is_name ⟨rfl, rfl⟩ e_l_is_name ⟨rfl, rfl⟩ ⟨trivial, trivial, ⟨F.b_all, F.b_len, trivial⟩, trivial, trivial, trivial, trivial, trivial⟩
theorem sims_l_parsed (F : Facts P w K mg base C fI cc cda S Ow0) : ∀ n : Nat, FnSim P w K mg base (1 + n) "_law_parsed" 2 (W_l_parsed n 0)
  | 0 => fn_stuck F.t_l_parsed rfl
  | n + 1 => by
    obtain h0 := sims_l_parsed F n
    exact sim_mk (k := 1 + n) (C := C_l_parsed (W_l_parsed n 0)) F.t_l_parsed o_l_parsed ⟨rfl, rfl⟩ (e_l_parsed _) ⟨rfl, rfl⟩ ⟨⟨((sim_l_is_name F).mono (by omega)), h0, trivial⟩, trivial, trivial, trivial, trivial, trivial, trivial, trivial⟩
theorem sim_l_parsed (F : Facts P w K mg base C fI cc cda S Ow0) : FnSim P w K mg base 61 "_law_parsed" 2 F_l_parsed := (sims_l_parsed F 60)
theorem sim_l_told (F : Facts P w K mg base C fI cc cda S Ow0) : FnSim P w K mg base 64 "_law_told" 1 F_l_told := by
  refine sim_try (k := 63) (i := 1) (en := "e") (x := "InvalidType") (C := C_l_told) F.t_l_told o_l_told ⟨rfl, rfl⟩ (by rfl) e_l_told ⟨rfl, rfl⟩ ⟨⟨((sim_parse_type F).mono (by decide)), trivial⟩, trivial, trivial, trivial, trivial, trivial, trivial, trivial⟩ rfl (by decide +kernel) (by decide +kernel) (by decide) F.x_InvalidType.gC F.xm_InvalidType rfl (fun X e1 e2 e3 e4 e5 hsc hN hr => ?_)
  subst e1 e2 e3 e4 e5
  have gl : ∀ y, (defScope s_l_told).names.lookup y = some .globalImplicit → Gl X y := fun y z => by show X.env.scope.names.lookup y = _; rw [hsc]; exact z
  have T : SuiT X 1 Ow0 "e" := ⟨by rw [hN]; rfl, by rw [hsc]; decide +kernel, by decide, by decide, F.xe_InvalidType⟩
  exact su_C T (gl _ (by decide +kernel)) F.b_isinstance (gl _ (by decide +kernel)) F.g_S (by decide) F.xs_InvalidType (gl _ (by decide +kernel)) F.b_ValueError F.xv_InvalidType
theorem sim_l_fits (F : Facts P w K mg base C fI cc cda S Ow0) : FnSim P w K mg base 2 "_law_fits" 2 F_l_fits :=
  sim_mk (k := 1) (C := C_l_fits) F.t_l_fits o_l_fits ⟨rfl, rfl⟩ e_l_fits ⟨rfl, rfl⟩ ⟨⟨((sim_l_is_integer F).mono (by decide)), trivial⟩, trivial, ⟨F.b_all, F.b_bool, F.b_isinstance, F.b_ord, F.b_str, trivial⟩, trivial, trivial, trivial, trivial, trivial⟩
theorem sim_law (F : Facts P w K mg base C fI cc cda S Ow0) {f : Addr} {fd : FuncData} (Fn : Fun K "law" "law" s_law f fd) : FnOk P w K mg base (L2N.CX P w) 65 f fd P_law (spSim K mg 1 F_law) :=
  have A : AllT P w K mg base 64 C_law := ⟨⟨((sim_l_draw F).mono (by decide)), ((sim_l_fits F).mono (by decide)), ((sim_l_is_name F).mono (by decide)), ((sim_l_name F).mono (by decide)), ((sim_l_parsed F).mono (by decide)), ((sim_l_pick F).mono (by decide)), ((sim_l_told F).mono (by decide)), ((sim_base_of F).mono (by decide)), ((sim_fits F).mono (by decide)), ((sim_format_type F).mono (by decide)), ((sim_has_list F).mono (by decide)), ((sim_is_name F).mono (by decide)), ((sim_parse_type F).mono (by decide)), trivial⟩, trivial, ⟨F.b_bool, F.b_isinstance, F.b_len, F.b_range, trivial⟩, trivial, trivial, trivial, trivial, trivial⟩
  fn_sim Fn o_law ⟨rfl, rfl⟩ e_law A.mdl A.x.get
end
theorem all_mk {P : Program} {w : World} {K : PySem.W.Frag} {h : Heap} {mg : Str → Option Value} {fa : Addr} (X : K.In h) (G : h.Ns mainGlobals mg) (hfa : mg "law" = some (.ref fa))
    {f0 : Addr} {od0 an0 : Option Addr} {sl0 : Array (Option Value)} {oc0 kV0 dc0 pm0 cd0 ct0 : Value}
    {f1 : Addr} {od1 an1 : Option Addr} {sl1 : Array (Option Value)} {oc1 kV1 dc1 pm1 cd1 ct1 : Value}
    {f2 : Addr} {od2 an2 : Option Addr} {sl2 : Array (Option Value)} {oc2 kV2 dc2 pm2 cd2 ct2 : Value}
    {f3 : Addr} {od3 an3 : Option Addr} {sl3 : Array (Option Value)} {oc3 kV3 dc3 pm3 cd3 ct3 : Value}
    {f4 : Addr} {od4 an4 : Option Addr} {sl4 : Array (Option Value)} {oc4 kV4 dc4 pm4 cd4 ct4 : Value}
    {f5 : Addr} {od5 an5 : Option Addr} {sl5 : Array (Option Value)} {oc5 kV5 dc5 pm5 cd5 ct5 : Value}
    {f6 : Addr} {od6 an6 : Option Addr} {sl6 : Array (Option Value)} {oc6 kV6 dc6 pm6 cd6 ct6 : Value}
    {f7 : Addr} {od7 an7 : Option Addr} {sl7 : Array (Option Value)} {oc7 kV7 dc7 pm7 cd7 ct7 : Value}
    {f8 : Addr} {od8 an8 : Option Addr} {sl8 : Array (Option Value)} {oc8 kV8 dc8 pm8 cd8 ct8 : Value}
    {f9 : Addr} {od9 an9 : Option Addr} {sl9 : Array (Option Value)} {oc9 kV9 dc9 pm9 cd9 ct9 : Value}
    {f10 : Addr} {od10 an10 : Option Addr} {sl10 : Array (Option Value)} {oc10 kV10 dc10 pm10 cd10 ct10 : Value}
    {f11 : Addr} {od11 an11 : Option Addr} {sl11 : Array (Option Value)} {oc11 kV11 dc11 pm11 cd11 ct11 : Value}
    {f12 : Addr} {od12 an12 : Option Addr} {sl12 : Array (Option Value)} {oc12 kV12 dc12 pm12 cd12 ct12 : Value}
    {f13 : Addr} {od13 an13 : Option Addr} {sl13 : Array (Option Value)} {oc13 kV13 dc13 pm13 cd13 ct13 : Value}
    {f14 : Addr} {od14 an14 : Option Addr} {sl14 : Array (Option Value)} {oc14 kV14 dc14 pm14 cd14 ct14 : Value}
    {f15 : Addr} {od15 an15 : Option Addr} {sl15 : Array (Option Value)} {oc15 kV15 dc15 pm15 cd15 ct15 : Value}
    {f16 : Addr} {od16 an16 : Option Addr} {sl16 : Array (Option Value)} {oc16 kV16 dc16 pm16 cd16 ct16 : Value}
    {f17 : Addr} {od17 an17 : Option Addr} {sl17 : Array (Option Value)} {oc17 kV17 dc17 pm17 cd17 ct17 : Value}
    {f18 : Addr} {od18 an18 : Option Addr} {sl18 : Array (Option Value)} {oc18 kV18 dc18 pm18 cd18 ct18 : Value}
    {tc0 : Tok}
    {tc1 : Tok}
    {tc2 : Tok}
    {tc3 : Tok}
    {tc4 : Tok}
    {tc5 : Tok}
    {Ow0 : Addr}
    {S : Addr}
    {tbc0 tbT0 : Addr} {tbe0 : Value} {tbd0 : Option Addr} {tbv0 : Array Value} {tbs0 : Array (Option Value)}
    {tbc1 tbT1 : Addr} {tbe1 : Value} {tbd1 : Option Addr} {tbv1 : Array Value} {tbs1 : Array (Option Value)}
    (a0 : PySem.W.nsIn K mainGlobals "is_name" = some (some (.ref f0)))
    (l0 : K.lookup f0 = some ⟨oc0, od0, .func (PySem.W.fnOf "is_name" "is_name" (defArgs s_is_name) (defBody s_is_name) (defScope s_is_name) .none kV0 dc0 pm0 an0 cd0 ct0), sl0⟩)
    (c0 : PySem.W.codeIn K cd0 "is_name" = true)
    (k0 : PySem.W.keepIn K (.ref f0) = true)
    (a1 : PySem.W.nsIn K mainGlobals "is_text" = some (some (.ref f1)))
    (l1 : K.lookup f1 = some ⟨oc1, od1, .func (PySem.W.fnOf "is_text" "is_text" (defArgs s_is_text) (defBody s_is_text) (defScope s_is_text) .none kV1 dc1 pm1 an1 cd1 ct1), sl1⟩)
    (c1 : PySem.W.codeIn K cd1 "is_text" = true)
    (k1 : PySem.W.keepIn K (.ref f1) = true)
    (a2 : PySem.W.nsIn K mainGlobals "is_int" = some (some (.ref f2)))
    (l2 : K.lookup f2 = some ⟨oc2, od2, .func (PySem.W.fnOf "is_int" "is_int" (defArgs s_is_int) (defBody s_is_int) (defScope s_is_int) .none kV2 dc2 pm2 an2 cd2 ct2), sl2⟩)
    (c2 : PySem.W.codeIn K cd2 "is_int" = true)
    (k2 : PySem.W.keepIn K (.ref f2) = true)
    (a3 : PySem.W.nsIn K mainGlobals "fits" = some (some (.ref f3)))
    (l3 : K.lookup f3 = some ⟨oc3, od3, .func (PySem.W.fnOf "fits" "fits" (defArgs s_fits) (defBody s_fits) (defScope s_fits) .none kV3 dc3 pm3 an3 cd3 ct3), sl3⟩)
    (c3 : PySem.W.codeIn K cd3 "fits" = true)
    (k3 : PySem.W.keepIn K (.ref f3) = true)
    (a4 : PySem.W.nsIn K mainGlobals "parse_inner" = some (some (.ref f4)))
    (l4 : K.lookup f4 = some ⟨oc4, od4, .func (PySem.W.fnOf "parse_inner" "parse_inner" (defArgs s_parse_inner) (defBody s_parse_inner) (defScope s_parse_inner) .none kV4 dc4 pm4 an4 cd4 ct4), sl4⟩)
    (c4 : PySem.W.codeIn K cd4 "parse_inner" = true)
    (k4 : PySem.W.keepIn K (.ref f4) = true)
    (a5 : PySem.W.nsIn K mainGlobals "parse_type" = some (some (.ref f5)))
    (l5 : K.lookup f5 = some ⟨oc5, od5, .func (PySem.W.fnOf "parse_type" "parse_type" (defArgs s_parse_type) (defBody s_parse_type) (defScope s_parse_type) .none kV5 dc5 pm5 an5 cd5 ct5), sl5⟩)
    (c5 : PySem.W.codeIn K cd5 "parse_type" = true)
    (k5 : PySem.W.keepIn K (.ref f5) = true)
    (a6 : PySem.W.nsIn K mainGlobals "format_type" = some (some (.ref f6)))
    (l6 : K.lookup f6 = some ⟨oc6, od6, .func (PySem.W.fnOf "format_type" "format_type" (defArgs s_format_type) (defBody s_format_type) (defScope s_format_type) .none kV6 dc6 pm6 an6 cd6 ct6), sl6⟩)
    (c6 : PySem.W.codeIn K cd6 "format_type" = true)
    (k6 : PySem.W.keepIn K (.ref f6) = true)
    (a7 : PySem.W.nsIn K mainGlobals "base_of" = some (some (.ref f7)))
    (l7 : K.lookup f7 = some ⟨oc7, od7, .func (PySem.W.fnOf "base_of" "base_of" (defArgs s_base_of) (defBody s_base_of) (defScope s_base_of) .none kV7 dc7 pm7 an7 cd7 ct7), sl7⟩)
    (c7 : PySem.W.codeIn K cd7 "base_of" = true)
    (k7 : PySem.W.keepIn K (.ref f7) = true)
    (a8 : PySem.W.nsIn K mainGlobals "has_list" = some (some (.ref f8)))
    (l8 : K.lookup f8 = some ⟨oc8, od8, .func (PySem.W.fnOf "has_list" "has_list" (defArgs s_has_list) (defBody s_has_list) (defScope s_has_list) .none kV8 dc8 pm8 an8 cd8 ct8), sl8⟩)
    (c8 : PySem.W.codeIn K cd8 "has_list" = true)
    (k8 : PySem.W.keepIn K (.ref f8) = true)
    (a9 : PySem.W.nsIn K mainGlobals "_law_is_integer" = some (some (.ref f9)))
    (l9 : K.lookup f9 = some ⟨oc9, od9, .func (PySem.W.fnOf "_law_is_integer" "_law_is_integer" (defArgs s_l_is_integer) (defBody s_l_is_integer) (defScope s_l_is_integer) .none kV9 dc9 pm9 an9 cd9 ct9), sl9⟩)
    (c9 : PySem.W.codeIn K cd9 "_law_is_integer" = true)
    (k9 : PySem.W.keepIn K (.ref f9) = true)
    (a10 : PySem.W.nsIn K mainGlobals "_law_refill" = some (some (.ref f10)))
    (l10 : K.lookup f10 = some ⟨oc10, od10, .func (PySem.W.fnOf "_law_refill" "_law_refill" (defArgs s_l_refill) (defBody s_l_refill) (defScope s_l_refill) .none kV10 dc10 pm10 an10 cd10 ct10), sl10⟩)
    (c10 : PySem.W.codeIn K cd10 "_law_refill" = true)
    (k10 : PySem.W.keepIn K (.ref f10) = true)
    (a11 : PySem.W.nsIn K mainGlobals "_law_draw" = some (some (.ref f11)))
    (l11 : K.lookup f11 = some ⟨oc11, od11, .func (PySem.W.fnOf "_law_draw" "_law_draw" (defArgs s_l_draw) (defBody s_l_draw) (defScope s_l_draw) .none kV11 dc11 pm11 an11 cd11 ct11), sl11⟩)
    (c11 : PySem.W.codeIn K cd11 "_law_draw" = true)
    (k11 : PySem.W.keepIn K (.ref f11) = true)
    (a12 : PySem.W.nsIn K mainGlobals "_law_pick" = some (some (.ref f12)))
    (l12 : K.lookup f12 = some ⟨oc12, od12, .func (PySem.W.fnOf "_law_pick" "_law_pick" (defArgs s_l_pick) (defBody s_l_pick) (defScope s_l_pick) .none kV12 dc12 pm12 an12 cd12 ct12), sl12⟩)
    (c12 : PySem.W.codeIn K cd12 "_law_pick" = true)
    (k12 : PySem.W.keepIn K (.ref f12) = true)
    (a13 : PySem.W.nsIn K mainGlobals "_law_name" = some (some (.ref f13)))
    (l13 : K.lookup f13 = some ⟨oc13, od13, .func (PySem.W.fnOf "_law_name" "_law_name" (defArgs s_l_name) (defBody s_l_name) (defScope s_l_name) .none kV13 dc13 pm13 an13 cd13 ct13), sl13⟩)
    (c13 : PySem.W.codeIn K cd13 "_law_name" = true)
    (k13 : PySem.W.keepIn K (.ref f13) = true)
    (a14 : PySem.W.nsIn K mainGlobals "_law_is_name" = some (some (.ref f14)))
    (l14 : K.lookup f14 = some ⟨oc14, od14, .func (PySem.W.fnOf "_law_is_name" "_law_is_name" (defArgs s_l_is_name) (defBody s_l_is_name) (defScope s_l_is_name) .none kV14 dc14 pm14 an14 cd14 ct14), sl14⟩)
    (c14 : PySem.W.codeIn K cd14 "_law_is_name" = true)
    (k14 : PySem.W.keepIn K (.ref f14) = true)
    (a15 : PySem.W.nsIn K mainGlobals "_law_parsed" = some (some (.ref f15)))
    (l15 : K.lookup f15 = some ⟨oc15, od15, .func (PySem.W.fnOf "_law_parsed" "_law_parsed" (defArgs s_l_parsed) (defBody s_l_parsed) (defScope s_l_parsed) .none kV15 dc15 pm15 an15 cd15 ct15), sl15⟩)
    (c15 : PySem.W.codeIn K cd15 "_law_parsed" = true)
    (k15 : PySem.W.keepIn K (.ref f15) = true)
    (a16 : PySem.W.nsIn K mainGlobals "_law_told" = some (some (.ref f16)))
    (l16 : K.lookup f16 = some ⟨oc16, od16, .func (PySem.W.fnOf "_law_told" "_law_told" (defArgs s_l_told) (defBody s_l_told) (defScope s_l_told) .none kV16 dc16 pm16 an16 cd16 ct16), sl16⟩)
    (c16 : PySem.W.codeIn K cd16 "_law_told" = true)
    (k16 : PySem.W.keepIn K (.ref f16) = true)
    (a17 : PySem.W.nsIn K mainGlobals "_law_fits" = some (some (.ref f17)))
    (l17 : K.lookup f17 = some ⟨oc17, od17, .func (PySem.W.fnOf "_law_fits" "_law_fits" (defArgs s_l_fits) (defBody s_l_fits) (defScope s_l_fits) .none kV17 dc17 pm17 an17 cd17 ct17), sl17⟩)
    (c17 : PySem.W.codeIn K cd17 "_law_fits" = true)
    (k17 : PySem.W.keepIn K (.ref f17) = true)
    (a18 : PySem.W.nsIn K mainGlobals "law" = some (some (.ref f18)))
    (l18 : K.lookup f18 = some ⟨oc18, od18, .func (PySem.W.fnOf "law" "law" (defArgs s_law) (defBody s_law) (defScope s_law) .none kV18 dc18 pm18 an18 cd18 ct18), sl18⟩)
    (c18 : PySem.W.codeIn K cd18 "law" = true)
    (k18 : PySem.W.keepIn K (.ref f18) = true)
    (v0 : PySem.W.nsIn K mainGlobals "GREATEST_INT" = some (some (.int (2147483647) tc0)))
    (v1 : PySem.W.nsIn K mainGlobals "LEAST_INT" = some (some (.int (-2147483648) tc1)))
    (v2 : PySem.W.nsIn K mainGlobals "LETTERS" = some (some (.str "abcdefghijklmnopqrstuvwxyzABCDEFGHIJKLMNOPQRSTUVWXYZ" tc2)))
    (v3 : PySem.W.nsIn K mainGlobals "MOST_LISTS" = some (some (.int (5) tc3)))
    (v4 : PySem.W.nsIn K mainGlobals "MOST_NAME" = some (some (.int (30) tc4)))
    (v5 : PySem.W.nsIn K mainGlobals "NAME_SIGNS" = some (some (.str "abcdefghijklmnopqrstuvwxyzABCDEFGHIJKLMNOPQRSTUVWXYZ0123456789_" tc5)))
    (z0 : PySem.W.nsIn K mainGlobals "all" = some none)
    (z1 : PySem.W.nsIn K mainGlobals "bool" = some none)
    (z2 : PySem.W.nsIn K mainGlobals "int" = some none)
    (z3 : PySem.W.nsIn K mainGlobals "isinstance" = some none)
    (z4 : PySem.W.nsIn K mainGlobals "len" = some none)
    (z5 : PySem.W.nsIn K mainGlobals "ord" = some none)
    (z6 : PySem.W.nsIn K mainGlobals "range" = some none)
    (z7 : PySem.W.nsIn K mainGlobals "str" = some none)
    (z8 : PySem.W.nsIn K mainGlobals "ValueError" = some none)
    (xS : PySem.W.nsIn K mainGlobals "SeamError" = some (some (.ref S)))
    (owa0 : PySem.W.nsIn K mainGlobals "InvalidType" = some (some (.ref Ow0)))
    (owx0 : PySem.W.excIn K Ow0 [.type "ValueError", .type "Exception", .type "BaseException", .type "object"] "ValueError.__new__" = true)
    (owk0 : PySem.W.keepIn K (.ref Ow0) = true)
    (owb0 : PySem.W.subIn K (.ref Ow0) (.type "BaseException") = some true)
    (owt0 : PySem.W.typeIn K (.ref Ow0) = some (.type "type"))
    (owh0 : PySem.W.hasDictIn K Ow0 = true)
    (owga0 : PySem.W.findIn K (.ref Ow0) "__getattribute__" = some (some (.builtin "BaseException.__getattribute__")))
    (owgg0 : PySem.W.findIn K (.ref Ow0) "__getattr__" = some none)
    (owcl0 : PySem.W.findIn K (.ref Ow0) "__class__" = some (some (.builtin "object.__class__")))
    (owsp0 : PySem.W.specialIn K (.builtin "object.__class__") "__get__" = some (some (.builtin "getset_descriptor.__get__")))
    (owtk0 : PySem.W.takesIn K (.builtin "object.__class__") = some true)
    (owmo0 : PySem.W.mroIn K Ow0 (.type "object") = some true)
    (owss0 : PySem.W.subIn K (.ref Ow0) (.ref Ow0) = some true)
    (owki0 : PySem.W.kitOne K (.ref Ow0) (.ref S) = some true)
    (owkv0 : PySem.W.kitOne K (.ref Ow0) (.type "ValueError") = some true)
    (ta0 : cd0 = .ref tbc0)
    (tb0 : K.lookup tbc0 = some ⟨tbe0, tbd0, .fields tbv0, tbs0⟩)
    (td0 : tbv0[11]? = some (.ref tbT0))
    (te0 : K.lookup tbT0 = none)
    (ta1 : cd1 = .ref tbc1)
    (tb1 : K.lookup tbc1 = some ⟨tbe1, tbd1, .fields tbv1, tbs1⟩)
    (td1 : tbv1[11]? = some (.ref tbT1))
    (te1 : K.lookup tbT1 = none)
    (tnd : [tbT0, tbT1].Nodup)
     :
    ∃ (fd : FuncData) (ts : List (Str × Addr × Addr)), (∀ (s : Shared) (v : Value), BindsTo s fd ⟨[v], []⟩ [("_law_script", v)]) ∧ (∀ t ∈ ts, TabK K mg t) ∧ (ts.map (·.2.2)).Nodup ∧ ts.map (·.1) = (["is_name", "is_text"] : List Str) ∧ ∀ base : Heap, K.In base → base.Ns mainGlobals mg → (∀ t ∈ ts, GxR.TabB base mg t.2.1 t.2.2) → FnOk P w K mg base (L2N.CX P w) 65 fa fd ["_law_script"] (spSim K mg 1 F_law) := by
  have hK : ∀ t ∈ [(("is_name" : Str), tbc0, tbT0), (("is_text" : Str), tbc1, tbT1)], TabK K mg t := List.forall_mem_cons.mpr ⟨tab_mk X G a0 l0 ta0 tb0 td0 te0, List.forall_mem_cons.mpr ⟨tab_mk X G a1 l1 ta1 tb1 td1 te1, fun _ h => nomatch h⟩⟩
  refine law_mkT (x := "law") X G hfa a18 l18 (fun s v => .of_eq rfl) hK tnd rfl fun base B => ?_
  have F : Facts P w K mg base 0 0 0 0 S Ow0 :=
    { t_is_name := fnt_mk X G a0 l0 c0 k0 (fun _ _ _ _ _ _ us hl => match us, hl with | [_], _ => rfl),
      t_is_text := fnt_mk X G a1 l1 c1 k1 (fun _ _ _ _ _ _ us hl => match us, hl with | [_], _ => rfl),
      t_is_int := fnt_mk X G a2 l2 c2 k2 (fun _ _ _ _ _ _ us hl => match us, hl with | [_], _ => rfl),
      t_fits := fnt_mk X G a3 l3 c3 k3 (fun _ _ _ _ _ _ us hl => match us, hl with | [_, _], _ => rfl),
      t_parse_inner := fnt_mk X G a4 l4 c4 k4 (fun _ _ _ _ _ _ us hl => match us, hl with | [_, _], _ => rfl),
      t_parse_type := fnt_mk X G a5 l5 c5 k5 (fun _ _ _ _ _ _ us hl => match us, hl with | [_], _ => rfl),
      t_format_type := fnt_mk X G a6 l6 c6 k6 (fun _ _ _ _ _ _ us hl => match us, hl with | [_], _ => rfl),
      t_base_of := fnt_mk X G a7 l7 c7 k7 (fun _ _ _ _ _ _ us hl => match us, hl with | [_], _ => rfl),
      t_has_list := fnt_mk X G a8 l8 c8 k8 (fun _ _ _ _ _ _ us hl => match us, hl with | [_], _ => rfl),
      t_l_is_integer := fnt_mk X G a9 l9 c9 k9 (fun _ _ _ _ _ _ us hl => match us, hl with | [_], _ => rfl),
      t_l_refill := fnt_mk X G a10 l10 c10 k10 (fun _ _ _ _ _ _ us hl => match us, hl with | [_, _], _ => rfl),
      t_l_draw := fnt_mk X G a11 l11 c11 k11 (fun _ _ _ _ _ _ us hl => match us, hl with | [_, _, _], _ => rfl),
      t_l_pick := fnt_mk X G a12 l12 c12 k12 (fun _ _ _ _ _ _ us hl => match us, hl with | [_, _, _], _ => rfl),
      t_l_name := fnt_mk X G a13 l13 c13 k13 (fun _ _ _ _ _ _ us hl => match us, hl with | [_, _], _ => rfl),
      t_l_is_name := fnt_mk X G a14 l14 c14 k14 (fun _ _ _ _ _ _ us hl => match us, hl with | [_], _ => rfl),
      t_l_parsed := fnt_mk X G a15 l15 c15 k15 (fun _ _ _ _ _ _ us hl => match us, hl with | [_, _], _ => rfl),
      t_l_told := fnt_mk X G a16 l16 c16 k16 (fun _ _ _ _ _ _ us hl => match us, hl with | [_], _ => rfl),
      t_l_fits := fnt_mk X G a17 l17 c17 k17 (fun _ _ _ _ _ _ us hl => match us, hl with | [_, _], _ => rfl),
      c_GREATEST_INT := cst_int X G v0,
      c_LEAST_INT := cst_int X G v1,
      c_LETTERS := cst_str X G v2 (by first | rfl | decide +kernel),
      c_MOST_LISTS := cst_int X G v3,
      c_MOST_NAME := cst_int X G v4,
      c_NAME_SIGNS := cst_str X G v5 (by first | rfl | decide +kernel),
      b_all := PySem.W.mg_none_of X G z0,
      b_bool := PySem.W.mg_none_of X G z1,
      b_int := PySem.W.mg_none_of X G z2,
      b_isinstance := PySem.W.mg_none_of X G z3,
      b_len := PySem.W.mg_none_of X G z4,
      b_ord := PySem.W.mg_none_of X G z5,
      b_range := PySem.W.mg_none_of X G z6,
      b_str := PySem.W.mg_none_of X G z7,
      b_ValueError := PySem.W.mg_none_of X G z8,
      x_InvalidType := ⟨PySem.W.mg_of X G owa0, owx0, owk0, owb0, owt0⟩,
      xe_InvalidType := ⟨owga0, owgg0, owb0, owh0, owcl0, owsp0, owtk0, owmo0⟩,
      xm_InvalidType := PySem.W.exm_ref owb0 owh0 owt0 owss0,
      xs_InvalidType := owki0,
      xv_InvalidType := owkv0,
      g_S := PySem.W.mg_of X G xS,
      q_is_name := ⟨_, _, tab_mk X G a0 l0 ta0 tb0 td0 te0, B _ (.head _)⟩,
      q_is_text := ⟨_, _, tab_mk X G a1 l1 ta1 tb1 td1 te1, B _ (.tail _ (.head _))⟩ }
  exact ⟨_, sim_law F (fun_mk l18 c18 k18), rfl⟩
theorem walk {l : PySem.W.OpenLaw} {q : Program} {loose : List Str} {XP : (Str → Option Value) → Heap → Prop} {YP : World → Heap → Prop} {d : DefRec} {K : Params → PySem.W.Frag} (hn : l.most = some 63) (hdf : d.params.defaults = [])
    (hrec : (((["is_name", "is_text"] : List Str) : List Str)).all (fun x => (PyProof.Rows.recsOf q).any fun e => e.name == x) = true) (hY : ∀ (w : World) (h : Heap), YP w h → (K w.params).In h)
    (hl : ∀ ns : List Int, ns.length ≤ 63 → ∃ I', F_law [.scr ns] [.tab "" "is_name", .tab "" "is_text"] = .ok (.bl true) I')
    (F : ∀ (w : World) (mg : Str → Option Value) (fa : Addr) (h : Heap), (K w.params).In h → h.Ns mainGlobals mg → mg d.name = some (.ref fa) →
      ∃ (fd : FuncData) (ts : List (Str × Addr × Addr)), (∀ (s : Shared) (u : Value), BindsTo s fd ⟨[u], []⟩ [("_law_script", u)]) ∧ (∀ t ∈ ts, TabK (K w.params) mg t) ∧ (ts.map (·.2.2)).Nodup ∧ ts.map (·.1) = (["is_name", "is_text"] : List Str) ∧
        ∀ base : Heap, (K w.params).In base → base.Ns mainGlobals mg → (∀ t ∈ ts, GxR.TabB base mg t.2.1 t.2.2) → FnOk l.prog w (K w.params) mg base (L2N.CX l.prog w) 65 fa fd ["_law_script"] (spSim (K w.params) mg 1 F_law)) :
    PySem.W.WalkO q loose XP YP l.row.toRowW d [] (fun f vs => PySem.call f vs) :=
  walkT (k := 65) (x := "_law_script") (F := F_law) (names := (["is_name", "is_text"] : List Str)) hn hdf ⟨rfl, by decide, by decide⟩ hrec hY hl F
end K01
namespace K01
open PySem PySem.Spec L2 MP
noncomputable def rf3 : SF := (seqS (ifS (andT (boolE (bin2 (cmpI fun i j => decide (j ≤ i)) (getV 2) (bin2 powD (cV (.int 10)) (cV (.int 18))))) (boolE (bin2 ltS (getV 1) (bltE lenD [(getV 0)])))) (seqS (retS (getV 2)) nxS) nxS) (seqS (retS (bin2 modD (bltE intD [(bin2 addD (bin2 mulSD (bltE intD [(bin2 addD (bin2 addD (bin2 mulSD (getV 2) (cV (.int 48271))) (bin2 mulSD (getV 1) (cV (.int 69621)))) (cV (.int 12345)))]) (cV (.int 40692))) (cV (.int 7)))]) (cV (.int 2147483399)))) nxS))
theorem rf3_ok (ns : List Int) (k : Nat) (J : MH) {v : Int} (hv : 0 ≤ v) : ∃ z : Int, 0 ≤ z ∧ rf3 [some (.scr ns), some (nI k), some (.int v)] J = .ret (.int z) J := by
  have m1 : ∀ i : Int, mulSD (.int i) (.int 48271) J = .ok (.int (i * 48271)) J := fun i => o_mul0 (by decide)
  have m2 : ∀ i : Nat, mulSD (nI i) (.int 69621) J = .ok (.int (i * 69621)) J := fun i => o_muln (by decide)
  have m3 : ∀ i : Int, mulSD (.int i) (.int 40692) J = .ok (.int (i * 40692)) J := fun i => o_mul0 (by decide)
  have m4 : ∀ i : Int, modD (.int i) (.int 2147483399) J = .ok (.int (i % 2147483399)) J := fun i => o_modi (by decide)
  by_cases h : 1000000000000000000 ≤ v
  · by_cases hk : k < ns.length
    · exact ⟨v, hv, by simp -implicitDefEqProofs [rf3, o_pow18, o_scrlen, h, hk]⟩
    · exact ⟨_, Int.emod_nonneg _ (show (2147483399 : Int) ≠ 0 by decide), by simp -implicitDefEqProofs [rf3, o_pow18, o_scrlen, h, hk, m1, m2, m3, m4, o_intI]; rfl⟩
  · exact ⟨_, Int.emod_nonneg _ (show (2147483399 : Int) ≠ 0 by decide), by simp -implicitDefEqProofs [rf3, o_pow18, o_scrlen, h, m1, m2, m3, m4, o_intI]; rfl⟩
theorem refill_ok (ns : List Int) (k : Nat) (J : MH) : ∃ z : Int, 0 ≤ z ∧ F_l_refill [.scr ns, nI k] J = .ok (.int z) J := by
  have m1 : ∀ i : Int, mulSD (.int 2) (.int i) J = .ok (.int (2 * i)) J := fun i => o_mul2 (by decide)
  have rest : ∀ v : Int, ∃ z : Int, 0 ≤ z ∧ seqS (ifS (boolE (bin2 ltS (getV 2) (cV (.int 0)))) (seqS (asgS (bin2 subD (cV (.int 1)) (bin2 mulSD (cV (.int 2)) (getV 2))) (nameT 2)) nxS) nxS) rf3 [some (.scr ns), some (nI k), some (.int v)] J = .ret (.int z) J := by
    intro v
    by_cases h : v < 0
    · obtain ⟨z, h0, e⟩ := rf3_ok ns k J (v := 1 - 2 * v) (by omega)
      exact ⟨z, h0, by simp -implicitDefEqProofs [h, m1, e]⟩
    · obtain ⟨z, h0, e⟩ := rf3_ok ns k J (v := v) (by omega)
      exact ⟨z, h0, by simp -implicitDefEqProofs [h, e]⟩
  unfold F_l_refill b_l_refill
  simp only [run_def]
  change ∃ z : Int, 0 ≤ z ∧ endD J (seqS _ (seqS _ (seqS _ rf3)) _ _) = _
  cases he : ns.isEmpty with
  | true =>
    obtain ⟨z, h0, e⟩ := rest 0
    rw [e_seq] at e
    exact ⟨z, h0, by simp -implicitDefEqProofs [o_scrtru, he] at e ⊢; simp -implicitDefEqProofs [e]⟩
  | false =>
    have hp : 0 < ns.length := by cases ns with
      | nil => cases he
      | cons => simp
    have hlt : k % ns.length < ns.length := Nat.mod_lt _ hp
    have hx : ∀ J, ixD (.scr ns) (nI (k % ns.length)) J = .ok (.int ns[k % ns.length]) J := fun J => o_scrix (List.getElem?_eq_getElem hlt)
    obtain ⟨z, h0, e⟩ := rest ns[k % ns.length]
    rw [e_seq] at e
    exact ⟨z, h0, by simp -implicitDefEqProofs [o_scrtru, he] at e ⊢; simp -implicitDefEqProofs [o_scrlen, o_modn hp, hx, e]⟩
/-- a draw -/
theorem draw_ok (ns : List Int) {s : Int} (hs : 0 < s ∧ s < 2 ^ 64) {i : Nat} {J : MH} {a : Nat} {b : Int} (hb : 0 ≤ b) (h : J[i]? = some (.lst [nI a, .int b])) :
    ∃ (d a' : Nat) (b' : Int), 0 ≤ b' ∧ (d : Int) < s ∧ F_l_draw [.loc i, .scr ns, .int s] J = .ok (nI d) (J.set i (.lst [nI a', .int b'])) := by
  have fin : ∀ (a' : Nat) (b' : Int) (J' : MH), 0 ≤ b' → J'[i]? = some (.lst [nI a', .int b']) → J' = J.set i (.lst [nI a', .int b']) ∨ J' = J →
      endD J (seqS (asgS (bin2 modD (bltE intD [(bin2 ixDD (getV 0) (cV (.int 1)))]) (getV 2)) (nameT 3)) (seqS (asgS (bin2 fdivD (bin2 ixDD (getV 0) (cV (.int 1))) (getV 2)) (subT (getV 0) (cV (.int 1)))) (seqS (retS (getV 3)) nxS)) [some (.loc i), some (.scr ns), some (.int s), none] J')
        = .ok (nI (b' % s).toNat) (J.set i (.lst [nI a', .int (b' / s)])) := by
    intro a' b' J' h0 hJ hJJ
    have e1 : ixDD (.loc i) (.int 1) J' = .ok (.int b') J' := (o_ixDloc hJ).trans (o_cell1 hJ)
    have e2 : setIx (.loc i) (.int 1) (.int (b' / s)) J' = .ok () (J'.set i (.lst [nI a', .int (b' / s)])) := o_set1 hJ
    have e3 : J'.set i (.lst [nI a', .int (b' / s)]) = J.set i (.lst [nI a', .int (b' / s)]) := by
      rcases hJJ with rfl | rfl
      · rw [List.set_set]
      · rfl
    have e4 : D.int (b' % s) = nI (b' % s).toNat := by
      show D.int (b' % s) = D.int (((b' % s).toNat : Nat) : Int)
      rw [Int.toNat_of_nonneg (Int.emod_nonneg _ (by omega))]
    have e5 : ∀ d, trim J d (J.set i (.lst [nI a', .int (b' / s)])) = J.set i (.lst [nI a', .int (b' / s)]) := fun d => trim_len (by simp)
    simp -implicitDefEqProofs [e1, o_intI, o_modi hs.1, o_divi hs, e_sub, e2, e3, e4, e5]
  have hd : ∀ b' : Int, 0 ≤ b' → (((b' % s).toNat : Nat) : Int) < s := fun b' h0 => by
    rw [Int.toNat_of_nonneg (Int.emod_nonneg _ (by omega))]
    exact Int.emod_lt_of_pos _ hs.1
  have hdiv : ∀ b' : Int, 0 ≤ b' → 0 ≤ b' / s := fun b' h0 => Int.ediv_nonneg h0 (by omega)
  unfold F_l_draw b_l_draw
  simp only [run_def]
  by_cases hz : b = 0
  · subst hz
    obtain ⟨z, hz0, hr⟩ := refill_ok ns a J
    have h1 : ixDD (.loc i) (.int 1) J = .ok (.int 0) J := (o_ixDloc h).trans (o_cell1 h)
    have h0 : ixDD (.loc i) (.int 0) J = .ok (nI a) J := (o_ixDloc h).trans (o_cell0 h)
    have s1 : setIx (.loc i) (.int 1) (.int z) J = .ok () (J.set i (.lst [nI a, .int z])) := o_set1 h
    have g1 : (J.set i (.lst [nI a, .int z]))[i]? = some (.lst [nI a, .int z]) := set_get h
    have h2 : ixDD (.loc i) (.int 0) (J.set i (.lst [nI a, .int z])) = .ok (nI a) (J.set i (.lst [nI a, .int z])) := (o_ixDloc g1).trans (o_cell0 g1)
    have s2 : setIx (.loc i) (.int 0) (nI (a + 1)) (J.set i (.lst [nI a, .int z])) = .ok () (J.set i (.lst [nI (a + 1), .int z])) := by
      rw [o_set0 g1, List.set_set]
    refine ⟨_, _, _, hdiv z hz0, hd z hz0, (Eq.trans ?_ (fin (a + 1) z (J.set i (.lst [nI (a + 1), .int z])) hz0 (set_get h) (.inl rfl)))⟩
    rw [e_seq]
    have : ifS (boolE (bin2 eqD (bin2 ixDD (getV 0) (cV (.int 1))) (cV (.int 0)))) (seqS (asgS (callE 2 F_l_refill [(getV 1), (bin2 ixDD (getV 0) (cV (.int 0)))]) (subT (getV 0) (cV (.int 1)))) (seqS (asgS (bin2 addD (bin2 ixDD (getV 0) (cV (.int 0))) (cV (.int 1))) (subT (getV 0) (cV (.int 0)))) nxS)) nxS [some (.loc i), some (.scr ns), some (.int s), none] J
        = .nx [some (.loc i), some (.scr ns), some (.int s), none] (J.set i (.lst [nI (a + 1), .int z])) := by
      simp -implicitDefEqProofs [h1, h0, hr, e_sub, s1, h2, s2]
    exact congrArg (endD J) ((congrArg (thenS · _) this).trans rfl)
  · have h1 : ixDD (.loc i) (.int 1) J = .ok (.int b) J := (o_ixDloc h).trans (o_cell1 h)
    refine ⟨_, _, _, hdiv b hb, hd b hb, (Eq.trans ?_ (fin a b J hb h (.inr rfl)))⟩
    rw [e_seq]
    have : ifS (boolE (bin2 eqD (bin2 ixDD (getV 0) (cV (.int 1))) (cV (.int 0)))) (seqS (asgS (callE 2 F_l_refill [(getV 1), (bin2 ixDD (getV 0) (cV (.int 0)))]) (subT (getV 0) (cV (.int 1)))) (seqS (asgS (bin2 addD (bin2 ixDD (getV 0) (cV (.int 0))) (cV (.int 1))) (subT (getV 0) (cV (.int 0)))) nxS)) nxS [some (.loc i), some (.scr ns), some (.int s), none] J
        = .nx [some (.loc i), some (.scr ns), some (.int s), none] J := by
      simp -implicitDefEqProofs [h1, hz]
    exact congrArg (endD J) ((congrArg (thenS · _) this).trans rfl)
end K01
/-! K01P: cuts, ends of texts; names; the generator and the comprehension over a text -/
namespace MP
open PySem PySem.Spec L2
section
variable {I : MH} {s : List Nat} {x c : Nat}
theorem strOk_of {s : List Nat} (h : ∀ c ∈ s, c < 128) : PyData.strOk (toS s) = true := by
  unfold PyData.strOk toS
  rw [← Array.all_toList]
  exact List.all_eq_true.mpr fun c hc => decide_eq_true (by have := h c hc; omega)
theorem o_sw : startswithD (.str s) [.str [c]] I = .ok (.bl (s.head? == some c)) I := by
  show Res.ok (D.bl (Txt.startswith (toS s) (toS [c]))) I = _
  unfold Txt.startswith
  rw [StrLaws.subAt_eq, toS_length, toS_length]
  cases s with
  | nil => rfl
  | cons a r =>
    have e : ((toS (a :: r)).cps.toList.drop 0).take (toS [c]).length = [a] := rfl
    show Res.ok (D.bl (decide (0 + [c].length ≤ (a :: r).length) && (List.take (toS [c]).length (List.drop 0 (toS (a :: r)).cps.toList) == (toS [c]).cps.toList))) I = _
    rw [e, decide_eq_true (by simp), Bool.true_and]
    show Res.ok (D.bl ([a] == [c])) I = Res.ok (D.bl (some a == some c)) I
    by_cases h : a = c <;> simp [h]
theorem o_ew : endswithD (.str (s ++ [x])) [.str [c]] I = .ok (.bl (x == c)) I := by
  show Res.ok (D.bl (Txt.endswith (toS (s ++ [x])) (toS [c]))) I = _
  unfold Txt.endswith
  rw [StrLaws.subAt_eq, toS_length, toS_length, List.length_append]
  have e : ((toS (s ++ [x])).cps.toList.drop (s.length + [x].length - [c].length)).take [c].length = [x] := by
    show ((s ++ [x]).drop (s.length + 1 - 1)).take 1 = [x]
    rw [Nat.add_sub_cancel, List.drop_left]; rfl
  rw [e, decide_eq_true (by simp), Bool.true_and]
  show Res.ok (D.bl ([x] == [c])) I = Res.ok (D.bl (x == c)) I
  by_cases h : x = c <;> simp [h]
theorem o_ew0 : endswithD (.str []) [.str [c]] I = .ok (.bl false) I := rfl
theorem o_ew2 {y d : Nat} : endswithD (.str (s ++ [x, y])) [.str [c, d]] I = .ok (.bl (x == c && y == d)) I := by
  show Res.ok (D.bl (Txt.endswith (toS (s ++ [x, y])) (toS [c, d]))) I = _
  unfold Txt.endswith
  rw [StrLaws.subAt_eq, toS_length, toS_length, List.length_append]
  have e : ((toS (s ++ [x, y])).cps.toList.drop (s.length + [x, y].length - [c, d].length)).take [c, d].length = [x, y] := by
    show ((s ++ [x, y]).drop (s.length + 2 - 2)).take 2 = [x, y]
    rw [Nat.add_sub_cancel, List.drop_left]; rfl
  rw [e, decide_eq_true (by simp), Bool.true_and]
  show Res.ok (D.bl ([x, y] == [c, d])) I = Res.ok (D.bl (x == c && y == d)) I
  by_cases h : x = c <;> by_cases h' : y = d <;> simp [h, h']
theorem o_ew20 {d : Nat} (h : s.length < 2) : endswithD (.str s) [.str [c, d]] I = .ok (.bl false) I := by
  match s, h with
  | [], _ => rfl
  | [_], _ => rfl
  | _ :: _ :: _, h => simp at h; omega
theorem o_sls {lo hi : Option Int} (h : s.length ≤ 16777216) : slD (.str s) lo hi I = .ok (.str (cutD s lo hi)) I := by
  show (if small s.length then Res.ok (D.str (cutD s lo hi)) I else .stuck) = _
  rw [small_of h, if_pos rfl]
theorem cut_init : cutD (s ++ [x]) none (some (-1)) = s := by
  unfold cutD HT.sIx
  simp
  rw [show ((-1 : Int) + ((s.length : Int) + 1)).toNat = s.length by omega, List.take_left]
theorem cut_last : cutD (s ++ [x]) (some (-1)) none = [x] := by
  unfold cutD HT.sIx
  simp
  rw [show ((-1 : Int) + ((s.length : Int) + 1)).toNat = s.length by omega, List.drop_left, show s.length + 1 - s.length = 1 by omega]; rfl
theorem cut_len : cutD (s ++ [x]) none (some (cI s.length)) = s := by
  show cutD (s ++ [x]) none (some ((s.length : Nat) : Int)) = s
  rw [cut_to, List.take_left]
theorem cut_mid : cutD (c :: (s ++ [x])) (some 1) (some (-1)) = s := by
  unfold cutD HT.sIx
  simp
  rw [show ((-1 : Int) + ((s.length : Int) + 1 + 1)).toNat - 1 = s.length by omega, List.take_left]
theorem cut_mid' : cutD (c :: (s ++ [x])) (some 1) (some (cI (s.length + 1))) = s := by
  show cutD (c :: (s ++ [x])) (some ((1 : Nat) : Int)) (some ((s.length + 1 : Nat) : Int)) = s
  unfold cutD
  rw [HT.sIx_nat, HT.sIx_nat]
  simp
theorem cut_1 : cutD (c :: s) none (some 1) = [c] := by
  show cutD (c :: s) none (some ((1 : Nat) : Int)) = [c]
  rw [cut_to]; rfl
@[simp] theorem e_seqI {f : EF} {ρ : En} : seqI f ρ I = (f ρ I).bind fun d I1 => optR I1 (itOf I1 d) := rfl
@[simp] theorem it_str : itOf I (.str s) = some ⟨s.map fun c => .str [c], none⟩ := rfl
@[simp] theorem it_lst {xs : List D} : itOf I (.lst xs) = some ⟨xs, none⟩ := rfl
/-- all over a text -/
theorem gen_all {L : List D} {ρ0 : En} {t : CTF} {te : EF} {p : Nat → Bool} : ∀ {s : List Nat}, (∀ c ∈ s, ∃ ρ1, t (.str [c]) ρ0 = some ρ1 ∧ te ρ1 I = .ok (.bl (p c)) I) → genL true ⟨L, none⟩ ρ0 t te (s.map fun c => .str [c]) I = .ok (.bl (s.all p)) I
  | [], _ => rfl
  | c :: s, h => by
    obtain ⟨ρ1, h1, h2⟩ := h c List.mem_cons_self
    have ih := gen_all (L := L) (s := s) fun c hc => h c (List.mem_cons_of_mem _ hc)
    rw [List.map_cons]
    unfold genL
    rw [if_pos (show watchOk ⟨L, none⟩ I = true from rfl), h1]
    dsimp only
    rw [h2]
    dsimp only [Res.calm, Res.bind]
    cases hp : p c with
    | true => simp only [if_true]; rw [ih]; simp [hp]
    | false => simp [hp]
theorem e_genE {go : Bool} {cls m : Str} {it : IF} {own : List Nat} {t : CTF} {te : EF} {ρ : En} : genE go cls m it own t te ρ I = (it ρ I).bind fun ip I1 => if tabAt I1 cls m then genL go ip (wipeR ρ own) t te ip.items I1 else .stuck := rfl
theorem lc_all {L : List D} {n : Nat} {ρ0 : En} {t : CTF} {te : EF} {f : Nat → D} (hn : n = I.length) : ∀ {s : List Nat} {acc : List D}, acc.length + s.length ≤ 16777216 → (∀ c ∈ s, ∃ ρ1, t (.str [c]) ρ0 = some ρ1 ∧ ∀ J, te ρ1 J = .ok (f c) J) →
    lcL ⟨L, none⟩ n ρ0 t yesT te (s.map fun c => .str [c]) (I ++ [.lst acc]) = .ok () (I ++ [.lst (acc ++ s.map f)])
  | [], acc, _, _ => by simp only [List.map_nil, List.append_nil]; rfl
  | c :: s, acc, hl, h => by
    subst hn
    obtain ⟨ρ1, h1, h2⟩ := h c List.mem_cons_self
    rw [List.length_cons] at hl
    have ih := lc_all (L := L) (t := t) (te := te) (ρ0 := ρ0) (f := f) (acc := acc ++ [f c]) rfl (s := s) (by rw [List.length_append, List.length_cons, List.length_nil]; omega) fun c hc => h c (List.mem_cons_of_mem _ hc)
    rw [List.map_cons]
    unfold lcL
    rw [if_pos (show watchOk ⟨L, none⟩ _ = true from rfl), h1]
    dsimp only [yesT, Res.calm, Res.bind]
    rw [if_pos rfl, h2]
    dsimp only
    rw [new_get]
    dsimp only
    rw [if_pos (decide_eq_true (by rw [sizeLine_eq]; omega)), new_set, ih, List.append_assoc]
    rfl
theorem e_lcE {it : IF} {own : List Nat} {t : CTF} {tt : TF} {te : EF} {ρ : En} : lcE it own t tt te ρ I = (it ρ I).bind fun ip I1 => (lcL ip I1.length (wipeR ρ own) t tt te ip.items (I1 ++ [.lst []])).bind fun _ I2 => fin I1 (.loc I1.length) I2 := rfl
theorem bools_map {α : Type} {p : α → Bool} : ∀ {s : List α}, boolsOf (s.map fun c => .bl (p c)) = some (s.map p)
  | [] => rfl
  | c :: s => by
    show (boolsOf (s.map fun c => .bl (p c))).map (p c :: ·) = _
    rw [bools_map]; rfl
theorem o_all {p : Nat → Bool} : allD [.lst (s.map fun c => .bl (p c))] I = .ok (.bl (s.all p)) I := by
  unfold allD lstOf
  dsimp only [Option.bind]
  rw [bools_map]
  dsimp only
  rw [List.all_map]; rfl
theorem unders_map {n : Nat} {f : Nat → D} (h : ∀ c, (f c).under n = true) : ∀ s : List Nat, unders n (s.map f) = true
  | [] => by simp
  | c :: s => by rw [List.map_cons, unders1, h, unders_map h s]; rfl
end
end MP
namespace K01
open PySem PySem.Spec L2 MP
def TB (J : MH) : Prop := tabAt J "" "is_name" = true ∧ tabAt J "" "is_text" = true
def nameOk (t : List Nat) : Bool := match t with
  | [] => false
  | c :: r => decide (r.length + 1 ≤ 30) && decide (c ∈ t_LET) && (c :: r).all fun x => decide (x ∈ t_NAM)
theorem is_name_ok {t : List Nat} (hz : t.length ≤ 1000) {J : MH} (hT : TB J) : F_is_name [.str t] J = .ok (.bl (nameOk t)) J := by
  have hz' : t.length ≤ 16777216 := by omega
  unfold F_is_name b_is_name
  rw [run_def]
  cases t with
  | nil => simp -implicitDefEqProofs [nameOk]
  | cons c r =>
    have hl' : r.length + 1 ≤ 16777216 := by simpa using hz'
    have hg : genL true ⟨(c :: r).map fun c => .str [c], none⟩ (wipeR [some (.str (c :: r)), none] [1]) (ctName 1) (bin2 (inDD false) (getV 1) (cV (.str t_NAM))) ((c :: r).map fun c => .str [c]) J = .ok (.bl ((c :: r).all fun x => decide (x ∈ t_NAM))) J := by
      refine gen_all fun c' _ => ⟨[some (.str (c :: r)), some (.str [c'])], rfl, ?_⟩
      simp -implicitDefEqProofs
    by_cases h3 : 30 < r.length + 1
    · have h3' : ¬ (r.length + 1 ≤ 30) := by omega
      simp -implicitDefEqProofs [nameOk, hl', h3, h3']
    · have h3' : r.length + 1 ≤ 30 := by omega
      by_cases h2 : c ∈ t_LET
      · rw [List.map_cons] at hg
        simp -implicitDefEqProofs [nameOk, hl', h3, h3', h2, e_genE, hT.1, hg]
      · simp -implicitDefEqProofs [nameOk, hl', h3, h3', h2]
theorem l_is_name_ok {t : List Nat} (hz : t.length ≤ 1000) {J : MH} : F_l_is_name [.str t] J = .ok (.bl (nameOk t)) J := by
  have hz' : t.length ≤ 16777216 := by omega
  have e0 : ∀ I, addD (.str t_LET) (.str t_digu) I = .ok (.str t_NAM) I := fun I => rfl
  unfold F_l_is_name b_l_is_name
  rw [run_def]
  cases t with
  | nil =>
    have h0 : ltS (nI 0) (.int 1) J = .ok (.bl true) J := rfl
    simp -implicitDefEqProofs [nameOk, h0]
  | cons c r =>
    have hl' : r.length + 1 ≤ 16777216 := by simpa using hz'
    have hg : lcL ⟨(c :: r).map fun c => .str [c], none⟩ J.length (wipeR [some (.str (c :: r)), some (.str t_LET), none] [2]) (ctName 2) yesT (bin2 (inDD false) (getV 2) (bin2 addD (getV 1) (cV (.str t_digu)))) ((c :: r).map fun c => .str [c]) (J ++ [.lst []]) = .ok () (J ++ [.lst ([] ++ (c :: r).map fun x => .bl (decide (x ∈ t_NAM)))]) := by
      refine lc_all rfl (by simpa using hl') fun c' _ => ⟨[some (.str (c :: r)), some (.str t_LET), some (.str [c'])], rfl, fun J' => ?_⟩
      simp -implicitDefEqProofs [e0]
    have hf : fin J (.loc J.length) (J ++ [.lst ((c :: r).map fun x => .bl (decide (x ∈ t_NAM)))]) = .ok (.lst ((c :: r).map fun x => .bl (decide (x ∈ t_NAM)))) J := fin_new (unders_map (fun _ => by simp) _)
    have ha : allD [.lst ((c :: r).map fun x => .bl (decide (x ∈ t_NAM)))] J = .ok (.bl ((c :: r).all fun x => decide (x ∈ t_NAM))) J := o_all
    rw [List.nil_append] at hg
    rw [List.map_cons] at hg hf ha
    rw [List.map_cons] at hg
    have h1 : ltS (nI (r.length + 1)) (.int 1) J = .ok (.bl false) J := by
      show Res.ok (D.bl (decide (cI (r.length + 1) < 1))) J = _
      rw [decide_eq_false (by unfold cI; omega)]
    by_cases h3 : 30 < r.length + 1
    · have h3' : ¬ (r.length + 1 ≤ 30) := by omega
      simp -implicitDefEqProofs [nameOk, hl', h3, h3', h1]
    · have h3' : r.length + 1 ≤ 30 := by omega
      by_cases h2 : c ∈ t_LET
      · simp -implicitDefEqProofs [nameOk, hl', h3, h3', h2, h1, e_lcE, hg, hf, ha]
      · simp -implicitDefEqProofs [nameOk, hl', h3, h3', h2, h1]
end K01
/-! K01Q: types read and told -/
namespace K01
open PySem PySem.Spec L2 MP
inductive Ty where
  | nm (s : List Nat)
  | li (t : Ty)
  | mu (t : Ty)
namespace Ty
def d : Ty → D
  | nm s => .tup [.str t_name, .str s]
  | li t => .tup [.str t_list, t.d]
  | mu t => .tup [.str t_must, t.d]
def tag : Ty → List Nat
  | nm _ => t_name
  | li _ => t_list
  | mu _ => t_must
def arg : Ty → D
  | nm s => .str s
  | li t => t.d
  | mu t => t.d
theorem d_eq : ∀ t : Ty, t.d = .tup [.str t.tag, t.arg]
  | nm _ => rfl
  | li _ => rfl
  | mu _ => rfl
def isMu : Ty → Bool
  | mu _ => true
  | _ => false
def dp : Ty → Nat
  | nm _ => 1
  | li t => t.dp + 1
  | mu t => t.dp + 1
def str : Ty → List Nat
  | nm s => s
  | li t => t.str
  | mu t => t.str
theorem under : ∀ t : Ty, t.d.under 0 = true
  | nm _ => by simp [d]
  | li t => by simp [d, under t]
  | mu t => by simp [d, under t]
theorem tag_mu (t : Ty) : (t.tag == t_must) = t.isMu := by cases t <;> rfl
theorem shp_d : ∀ t : Ty, (∀ c ∈ t.str, c < 128) → shp t.dp t.d = true
  | nm s, h => by
    show shp (0 + 1) (.tup [.str t_name, .str s]) = true
    rw [shp_tup, shps_1, shps_1, shp_str, shp_str, strOk_of (s := s) h, strOk_of (s := t_name) (by decide)]; rfl
  | li t, h => by
    show shp (t.dp + 1) (.tup [.str t_list, t.d]) = true
    rw [shp_tup, shps_1, shps_1, shp_d t h, shp_str, strOk_of (s := t_list) (by decide)]; rfl
  | mu t, h => by
    show shp (t.dp + 1) (.tup [.str t_must, t.d]) = true
    rw [shp_tup, shps_1, shps_1, shp_d t h, shp_str, strOk_of (s := t_must) (by decide)]; rfl
end Ty
section
variable {J : MH}
theorem ix0 (t : Ty) : ixDD t.d (.int 0) J = .ok (.str t.tag) J := by rw [t.d_eq]; simp
theorem ix1 (t : Ty) : ixDD t.d (.int 1) J = .ok t.arg J := by rw [t.d_eq]; simp
/-- the reading of a text as a type, within d lists -/
def pt : Nat → List Nat → Nat → Option Ty
  | 0, _, _ => none
  | n + 1, t, d => if t.getLast? = some 33 then (match pt n t.dropLast d with
      | some k => if k.isMu then none else some (.mu k)
      | none => none)
    else if t.head? = some 91 ∧ t.getLast? = some 93 ∧ 0 < d then (pt n t.tail.dropLast (d - 1)).map Ty.li
    else if nameOk t then some (.nm t) else none
def bad : Exn := ⟨"InvalidType", none⟩
def toP (o : Option Ty) (J : MH) : Res D := match o with
  | some k => .ok k.d J
  | none => .err bad J
theorem fin_ty (k : Ty) : fin J k.d J = .ok k.d J := by rw [fin_cl k.under, trim_self]
theorem fin_mu (k : Ty) : fin J (.tup [.str t_must, k.d]) J = .ok (.tup [.str t_must, k.d]) J := fin_ty (.mu k)
theorem fin_li (k : Ty) : fin J (.tup [.str t_list, k.d]) J = .ok (.tup [.str t_list, k.d]) J := fin_ty (.li k)
theorem fin_nm (s : List Nat) : fin J (.tup [.str t_name, .str s]) J = .ok (.tup [.str t_name, .str s]) J := fin_ty (.nm s)
theorem parse_inner_ok : ∀ (n : Nat) (t : List Nat) (d : Nat) (J : MH), t.length < n → t.length ≤ 1000 → TB J → W_parse_inner n 0 [.str t, nI d] J = toP (pt n t d) J
  | 0, t, d, J, h, _, _ => absurd h (Nat.not_lt_zero _)
  | n + 1, t, d, J, h, hz, hT => by
    have hd : ∀ k J, cmpI (fun i j => decide (j < i)) (nI k) (.int 0) J = .ok (.bl (decide (0 < k))) J := fun k J => o_gtk (k := 0)
    have hnm : ∀ J, TB J → F_is_name [.str t] J = .ok (.bl (nameOk t)) J := fun J hJ => is_name_ok hz hJ
    have tail : seqS (ifS (notT (truE (callE 1 F_is_name [(getV 0)]))) (seqS (raiseS "InvalidType" none (getV 0)) nxS) nxS) (seqS (retS (tupE [(cV (.str t_name)), (getV 0)])) nxS) [some (.str t), some (nI d), none] J = if nameOk t then .ret (.tup [.str t_name, .str t]) J else .err bad J := by
      cases hn : nameOk t <;> simp -implicitDefEqProofs [hnm J hT, hn, bad]
    show runDef 3 (b_parse_inner (W_parse_inner n 0)) [.str t, nI d] J = _
    rw [run_def]
    unfold b_parse_inner
    rcases List.eq_nil_or_concat t with rfl | ⟨s, x, rfl⟩
    · have e : pt (n + 1) [] d = none := by simp [pt, nameOk]
      rw [e]
      have hno : nameOk [] = false := rfl
      rw [hno] at tail
      rw [e_seq] at tail
      simp -implicitDefEqProofs [o_ew0, o_sw] at tail ⊢
      simp -implicitDefEqProofs [tail, toP, bad]
    · rw [List.concat_eq_append] at *
      rw [List.length_append, List.length_cons, List.length_nil] at h hz
      have hl : (s ++ [x]).length ≤ 16777216 := by rw [List.length_append, List.length_cons, List.length_nil]; omega
      have hlen : ∀ J, lenD [.str (s ++ [x])] J = .ok (nI (s.length + 1)) J := fun J => by rw [o_len hl, List.length_append]; rfl
      have hc1 : ∀ J, slD (.str (s ++ [x])) none (some (cI s.length)) J = .ok (.str s) J := fun J => by rw [o_sls hl, cut_len]
      by_cases hx : x = 33
      · subst hx
        have ih := parse_inner_ok n s d J (by omega) (by omega) hT
        have e : pt (n + 1) (s ++ [33]) d = match pt n s d with
          | some k => if k.isMu then none else some (.mu k)
          | none => none := by
          conv => lhs; unfold pt
          rw [List.getLast?_concat, if_pos rfl, List.dropLast_concat]
          all_goals (cases pt n s d <;> rfl)
        rw [e]
        cases hp : pt n s d with
        | none =>
          rw [hp] at ih
          simp -implicitDefEqProofs [o_ew, hlen, hc1, ih, toP]
        | some k =>
          rw [hp] at ih
          have ht := k.tag_mu
          cases hm : k.isMu with
          | true =>
            rw [hm] at ht
            simp -implicitDefEqProofs [o_ew, hlen, hc1, ih, toP, ix0, ht, hm, bad]
          | false =>
            rw [hm] at ht
            simp -implicitDefEqProofs [o_ew, hlen, hc1, ih, toP, ix0, ht, hm, fin_mu]
            rfl
      · by_cases hb : (s ++ [x]).head? = some 91 ∧ x = 93 ∧ 0 < d
        · obtain ⟨h1, rfl, h2⟩ := hb
          cases s with
          | nil => simp at h1
          | cons c r =>
            have hc : c = 91 := by simpa using h1
            subst hc
            obtain ⟨d, rfl⟩ : ∃ k, d = k + 1 := ⟨d - 1, by omega⟩
            rw [List.length_cons] at h hz
            have ih := parse_inner_ok n r d J (by omega) (by omega) hT
            have e : pt (n + 1) (91 :: r ++ [93]) (d + 1) = (pt n r d).map Ty.li := by
              conv => lhs; unfold pt
              rw [List.getLast?_concat, if_neg (by simp), if_pos ⟨rfl, rfl, h2⟩]
              simp
            rw [e]
            have hc2 : ∀ J, slD (.str (91 :: r ++ [93])) (some 1) (some (cI (r.length + 1))) J = .ok (.str r) J := fun J => by rw [o_sls hl, List.cons_append, cut_mid']
            rw [List.length_cons] at hlen
            simp only [List.cons_append] at hlen hc2 hc1 ⊢
            have hw : ∀ J, endswithD (.str (91 :: (r ++ [93]))) [.str [33]] J = .ok (.bl false) J := fun J => o_ew (s := 91 :: r)
            have hw2 : ∀ J, endswithD (.str (91 :: (r ++ [93]))) [.str [93]] J = .ok (.bl true) J := fun J => o_ew (s := 91 :: r)
            cases hp : pt n r d with
            | none =>
              rw [hp] at ih
              simp -implicitDefEqProofs [hw, hw2, o_sw, hd, hlen, hc2, ih, toP]
            | some k =>
              rw [hp] at ih
              simp -implicitDefEqProofs [hw, hw2, o_sw, hd, hlen, hc2, ih, toP, fin_li]
              rfl
        · have e : pt (n + 1) (s ++ [x]) d = if nameOk (s ++ [x]) then some (.nm (s ++ [x])) else none := by
            conv => lhs; unfold pt
            rw [List.getLast?_concat, if_neg (by simpa using hx), if_neg (by simpa using hb)]
          rw [e]
          have w1 : ∀ J, endswithD (.str (s ++ [x])) [.str [33]] J = .ok (.bl false) J := fun J => by rw [o_ew, beq_eq_false_iff_ne.mpr hx]
          have w2 : ∀ J, endswithD (.str (s ++ [x])) [.str [93]] J = .ok (.bl (x == 93)) J := fun J => o_ew
          have w3 : ∀ J, startswithD (.str (s ++ [x])) [.str [91]] J = .ok (.bl ((s ++ [x]).head? == some 91)) J := fun J => o_sw
          rw [e_seq] at tail
          have hcond : ((s ++ [x]).head? == some 91 && (x == 93 && decide (0 < d))) = false := by
            cases hh : ((s ++ [x]).head? == some 91 && (x == 93 && decide (0 < d))) with
            | false => rfl
            | true =>
              simp only [Bool.and_eq_true, beq_iff_eq, decide_eq_true_eq] at hh
              exact absurd ⟨hh.1, hh.2.1, hh.2.2⟩ hb
          generalize ((s ++ [x]).head? == some 91) = b1 at w3 hcond
          generalize (x == 93) = b2 at w2 hcond
          clear e hb hc1 hlen hl
          generalize s ++ [x] = T at *
          have go : ∀ r : SRes, r = .nx [some (.str T), some (nI d), none] J → endD J (thenS r (seqS (ifS (notT (truE (callE 1 F_is_name [(getV 0)]))) (seqS (raiseS "InvalidType" none (getV 0)) nxS) nxS) (seqS (retS (tupE [(cV (.str t_name)), (getV 0)])) nxS))) = toP (if nameOk T then some (.nm T) else none) J := fun r hr => by
            rw [hr, then_nx, e_seq, tail]
            cases hn : nameOk T with
            | true => exact fin_nm T
            | false => simp -implicitDefEqProofs [bad, toP]
          change endD J (seqS _ _ [some (.str T), some (nI d), none] J) = _
          rw [e_seq, show ifS (truE (methE isStr endswithD (getV 0) [(cV (.str [33]))])) _ nxS [some (.str T), some (nI d), none] J = .nx [some (.str T), some (nI d), none] J from by simp -implicitDefEqProofs [w1], then_nx, e_seq]
          refine go _ ?_
          cases b1 with
          | false => simp -implicitDefEqProofs [w3]
          | true =>
            cases b2 with
            | false => simp -implicitDefEqProofs [w3, w2]
            | true =>
              rw [Bool.true_and, Bool.true_and] at hcond
              simp -implicitDefEqProofs [w3, w2, hd, hcond]
end
end K01
/-! K01R: the law's own reading of types; parse_type, told -/
namespace K01
open PySem PySem.Spec L2 MP
section
variable {J : MH}
def toN (o : Option Ty) : D := match o with
  | some k => k.d
  | none => .non
theorem isn (k : Ty) : isB false k.d .non J = .ok (.bl false) J := by cases k <;> rfl
theorem isn0 : isB false .non .non J = .ok (.bl true) J := rfl
theorem o_neg1 : negD (.int 1) J = .ok (.int (-1)) J := rfl
theorem l_parsed_ok : ∀ (n : Nat) (t : List Nat) (d e : Nat) (J : MH), t.length < n → t.length ≤ 1000 → e + d = 5 → W_l_parsed n 0 [.str t, nI e] J = .ok (toN (pt n t d)) J
  | 0, t, d, e, J, h, _, _ => absurd h (Nat.not_lt_zero _)
  | n + 1, t, d, e, J, h, hz, hT => by
    have hd : ∀ J, ltS (nI e) (.int 5) J = .ok (.bl (decide (0 < d))) J := fun J => by
      show Res.ok (D.bl (decide (cI e < 5))) J = _
      have : (cI e < 5) = (0 < d) := by unfold cI; exact propext ⟨fun h => by omega, fun h => by omega⟩
      simp only [this]
    have hnm : ∀ J, F_l_is_name [.str t] J = .ok (.bl (nameOk t)) J := fun J => l_is_name_ok hz
    have tail : seqS (ifS (truE (callE 1 F_l_is_name [(getV 0)])) (seqS (retS (tupE [(cV (.str t_name)), (getV 0)])) nxS) nxS) (seqS (retS (cV .non)) nxS) [some (.str t), some (nI e), none] J = .ret (toN (if nameOk t then some (.nm t) else none)) J := by
      cases hn : nameOk t <;> simp -implicitDefEqProofs [hnm J, hn, toN, Ty.d]
    show runDef 3 (b_l_parsed (W_l_parsed n 0)) [.str t, nI e] J = _
    rw [run_def]
    unfold b_l_parsed
    have hlt : t.length ≤ 16777216 := by omega
    have fn : ∀ o : Option Ty, fin J (toN o) J = .ok (toN o) J := fun o => by
      cases o with
      | none => simp [toN]
      | some k => exact fin_ty k
    rcases List.eq_nil_or_concat t with rfl | ⟨s, x, rfl⟩
    · have e' : pt (n + 1) [] d = none := by simp [pt, nameOk]
      rw [e']
      have s1 : ∀ J, slD (.str []) (some (-1)) none J = .ok (.str []) J := fun J => rfl
      have s2 : ∀ J, slD (.str []) none (some 1) J = .ok (.str []) J := fun J => rfl
      have hno : nameOk [] = false := rfl
      rw [hno] at tail
      rw [e_seq] at tail
      simp -implicitDefEqProofs [s1, s2, o_neg1] at tail ⊢
      simp -implicitDefEqProofs [tail, toN]
    · rw [List.concat_eq_append] at *
      rw [List.length_append, List.length_cons, List.length_nil] at h hz
      have s1 : ∀ J, slD (.str (s ++ [x])) (some (-1)) none J = .ok (.str [x]) J := fun J => by rw [o_sls hlt, cut_last]
      have s2 : ∀ J, slD (.str (s ++ [x])) none (some (-1)) J = .ok (.str s) J := fun J => by rw [o_sls hlt, cut_init]
      by_cases hx : x = 33
      · subst hx
        have ih := l_parsed_ok n s d e J (by omega) (by omega) hT
        have e' : pt (n + 1) (s ++ [33]) d = match pt n s d with
          | some k => if k.isMu then none else some (.mu k)
          | none => none := by
          conv => lhs; unfold pt
          rw [List.getLast?_concat, if_pos rfl, List.dropLast_concat]
          all_goals (cases pt n s d <;> rfl)
        rw [e']
        cases hp : pt n s d with
        | none =>
          rw [hp] at ih
          simp -implicitDefEqProofs [s1, s2, o_neg1, ih, toN, isn0]
        | some k =>
          rw [hp] at ih
          have ht := k.tag_mu
          cases hm : k.isMu with
          | true =>
            rw [hm] at ht
            simp -implicitDefEqProofs [s1, s2, o_neg1, ih, toN, isn, ix0, ht, hm]
          | false =>
            rw [hm] at ht
            simp -implicitDefEqProofs [s1, s2, o_neg1, ih, toN, isn, ix0, ht, hm, fin_mu]
            rfl
      · have s3 : ∀ J, slD (.str (s ++ [x])) none (some 1) J = .ok (.str ((s ++ [x]).take 1)) J := fun J => by rw [o_sls hlt, show (1 : Int) = ((1 : Nat) : Int) from rfl, cut_to]
        have hx' : (x == 33) = false := beq_eq_false_iff_ne.mpr hx
        by_cases hb : (s ++ [x]).head? = some 91 ∧ x = 93 ∧ 0 < d
        · obtain ⟨h1, rfl, h2⟩ := hb
          cases s with
          | nil => simp at h1
          | cons c r =>
            have hc : c = 91 := by simpa using h1
            subst hc
            obtain ⟨d, rfl⟩ : ∃ k, d = k + 1 := ⟨d - 1, by omega⟩
            rw [List.length_cons] at h hz
            have ih := l_parsed_ok n r d (e + 1) J (by omega) (by omega) (by omega)
            have e' : pt (n + 1) (91 :: r ++ [93]) (d + 1) = (pt n r d).map Ty.li := by
              conv => lhs; unfold pt
              rw [List.getLast?_concat, if_neg (by simp), if_pos ⟨rfl, rfl, h2⟩]
              simp
            rw [e']
            have s4 : ∀ J, slD (.str (91 :: r ++ [93])) (some 1) (some (-1)) J = .ok (.str r) J := fun J => by rw [o_sls hlt, List.cons_append, cut_mid]
            simp only [List.cons_append] at s1 s3 s4 ⊢
            cases hp : pt n r d with
            | none =>
              rw [hp] at ih
              simp -implicitDefEqProofs [s1, s3, s4, o_neg1, hd, ih, toN, isn0]
            | some k =>
              rw [hp] at ih
              simp -implicitDefEqProofs [s1, s3, s4, o_neg1, hd, ih, toN, isn, fin_li]
              rfl
        · have e' : pt (n + 1) (s ++ [x]) d = if nameOk (s ++ [x]) then some (.nm (s ++ [x])) else none := by
            conv => lhs; unfold pt
            rw [List.getLast?_concat, if_neg (by simpa using hx), if_neg (by simpa using hb)]
          rw [e']
          have w1 : ∀ J, eqD (.str [x]) (.str [33]) J = .ok (.bl false) J := fun J => by simp [hx]
          have w2 : ∀ J, eqD (.str [x]) (.str [93]) J = .ok (.bl (x == 93)) J := fun J => by simp
          have w3 : ∀ J, eqD (.str ((s ++ [x]).take 1)) (.str [91]) J = .ok (.bl ((s ++ [x]).head? == some 91)) J := fun J => by
            cases s with
            | nil => simp
            | cons c r => simp
          have hcond : ((s ++ [x]).head? == some 91 && (x == 93 && decide (0 < d))) = false := by
            cases hh : ((s ++ [x]).head? == some 91 && (x == 93 && decide (0 < d))) with
            | false => rfl
            | true =>
              simp only [Bool.and_eq_true, beq_iff_eq, decide_eq_true_eq] at hh
              exact absurd ⟨hh.1, hh.2.1, hh.2.2⟩ hb
          generalize ((s ++ [x]).head? == some 91) = b1 at w3 hcond
          generalize (x == 93) = b2 at w2 hcond
          clear e' hb hlt hx'
          generalize (s ++ [x]).take 1 = T1 at *
          generalize s ++ [x] = T at *
          change endD J (seqS _ _ [some (.str T), some (nI e), none] J) = _
          rw [e_seq, show ifS (boolE (bin2 eqD (sliceE (getV 0) (some (un1 negD (cV (.int 1)))) none) (cV (.str [33])))) _ nxS [some (.str T), some (nI e), none] J = .nx [some (.str T), some (nI e), none] J from by simp -implicitDefEqProofs [-o_eqss, o_neg1, s1, w1], then_nx, e_seq]
          have go : ∀ r : SRes, r = .nx [some (.str T), some (nI e), none] J → endD J (thenS r (seqS (ifS (truE (callE 1 F_l_is_name [(getV 0)])) (seqS (retS (tupE [(cV (.str t_name)), (getV 0)])) nxS) nxS) (seqS (retS (cV .non)) nxS))) = .ok (toN (if nameOk T then some (.nm T) else none)) J := fun r hr => by
            rw [hr, then_nx, tail]
            exact fn _
          refine go _ ?_
          cases b1 with
          | false => simp -implicitDefEqProofs [-o_eqss, o_neg1, s3, w3]
          | true =>
            cases b2 with
            | false => simp -implicitDefEqProofs [-o_eqss, o_neg1, s1, s3, w2, w3]
            | true =>
              rw [Bool.true_and, Bool.true_and] at hcond
              simp -implicitDefEqProofs [-o_eqss, o_neg1, s1, s3, w2, w3, hd, hcond]
end
end K01
/-! K01S: parse_type, told; the types' own defs -/
namespace MP
open PySem PySem.Spec L2
theorem while_ret {t : TF} {b : SF} {n : Nat} {ρ : En} {I I1 I2 : MH} {d : D} (h : t ρ I = .ok true I1) (hb : b ρ I1 = .ret d I2) : whileN t b (n + 1) ρ I = .ret d I2 := by
  unfold whileN
  rw [h]
  dsimp only [Res.bindS]
  simp [hb]
theorem o_nerefl {d : D} {I : MH} (h : shp 64 d = true) : neD d d I = .ok (.bl false) I := by
  have e := o_eqrefl (I := I) h
  unfold eqD at e
  unfold neD
  split at e
  · rename_i hc
    rw [if_pos hc]
    cases e' : eqvD d d with
    | true => rfl
    | false => rw [e'] at e; cases e
  · cases e
end MP
namespace K01
open PySem PySem.Spec L2 MP
section
variable {J : MH}
theorem pt_bang {n d : Nat} {s : List Nat} : pt (n + 1) (s ++ [33]) d = match pt n s d with
    | some k => if k.isMu then none else some (.mu k)
    | none => none := by
  conv => lhs; unfold pt
  rw [List.getLast?_concat, if_pos rfl, List.dropLast_concat]
  all_goals (cases pt n s d <;> rfl)
theorem pt_bang2 {n d : Nat} {s : List Nat} : pt (n + 2) (s ++ [33, 33]) d = none := by
  rw [show s ++ [33, 33] = (s ++ [33]) ++ [33] by simp, pt_bang, pt_bang]
  cases pt n s d with
  | none => rfl
  | some k => cases k <;> rfl
theorem pt_good : ∀ {n : Nat} {t : List Nat} {d : Nat} {k : Ty}, pt n t d = some k → k.dp ≤ n ∧ nameOk k.str = true
  | 0, _, _, _, h => by cases h
  | n + 1, t, d, k, h => by
    unfold pt at h
    split at h
    · split at h
      · rename_i k' hk
        split at h
        · cases h
        · cases h
          have := pt_good hk
          exact ⟨Nat.succ_le_succ this.1, this.2⟩
      · cases h
    · split at h
      · cases hk : pt n t.tail.dropLast (d - 1) with
        | none => rw [hk] at h; cases h
        | some k' =>
          rw [hk] at h
          cases h
          have := pt_good hk
          exact ⟨Nat.succ_le_succ this.1, this.2⟩
      · split at h
        · rename_i hn
          cases h
          exact ⟨by show 1 ≤ n + 1; omega, hn⟩
        · cases h
theorem NAM_small : ∀ c ∈ t_NAM, c < 128 := by decide
theorem name_small {s : List Nat} (h : nameOk s = true) : ∀ c ∈ s, c < 128 := by
  cases s with
  | nil => intro c hc; cases hc
  | cons a r =>
    unfold nameOk at h
    simp only [Bool.and_eq_true] at h
    intro c hc
    exact NAM_small c (of_decide_eq_true (List.all_eq_true.mp h.2 c hc))
theorem shp_ty {k : Ty} {n : Nat} (h : nameOk k.str = true) (hd : k.dp ≤ n) : shp n k.d = true := shp_mono (k.shp_d (name_small h)) hd
theorem parse_type_ok {t : List Nat} (hl : t.length < 60) (hT : TB J) : F_parse_type [.str t] J = toP (pt 60 t 5) J := by
  have hp : W_parse_inner 60 0 [.str t, .int 5] J = toP (pt 60 t 5) J := parse_inner_ok 60 t 5 J hl (by omega) hT
  unfold F_parse_type b_parse_type
  rw [run_def]
  have go : endswithD (.str t) [.str tq_7] J = .ok (.bl false) J → endD J (seqS (ifS (truE (methE isStr endswithD (getV 0) [(cV (.str tq_7))])) (seqS (raiseS "InvalidType" none (getV 0)) nxS) nxS) (seqS (retS (callE 2 F_parse_inner [(getV 0), (cV (.int 5))])) nxS) [some (.str t)] J) = toP (pt 60 t 5) J := fun he => by
    cases ho : pt 60 t 5 with
    | none => rw [ho] at hp; simp -implicitDefEqProofs [he, hp, toP, bad]
    | some k => rw [ho] at hp; simp -implicitDefEqProofs [he, hp, toP, fin_ty]
  rcases List.eq_nil_or_concat t with rfl | ⟨s, y, rfl⟩
  · exact go rfl
  · rcases List.eq_nil_or_concat s with rfl | ⟨s, x, rfl⟩
    · exact go rfl
    · simp only [List.concat_eq_append, List.append_assoc, List.cons_append, List.nil_append] at *
      have he : endswithD (.str (s ++ [x, y])) [.str tq_7] J = .ok (.bl (x == 33 && y == 33)) J := o_ew2
      by_cases hx : x = 33 ∧ y = 33
      · obtain ⟨rfl, rfl⟩ := hx
        rw [pt_bang2]
        simp at he
        simp -implicitDefEqProofs [he, toP, bad]
      · refine go ?_
        rw [he]
        have : (x == 33 && y == 33) = false := by
          cases hh : (x == 33 && y == 33) with
          | false => rfl
          | true =>
            simp only [Bool.and_eq_true, beq_iff_eq] at hh
            exact absurd hh hx
        rw [this]
theorem told_ok {t : List Nat} (hl : t.length < 60) (hT : TB J) : F_l_told [.str t] J = .ok (toN (pt 60 t 5)) J := by
  have hp := parse_type_ok hl hT
  unfold F_l_told
  rw [run_def]
  cases ho : pt 60 t 5 with
  | none =>
    rw [ho] at hp
    have e : tryS "InvalidType" (sdNone .non) b_l_told [some (.str t), none] J = .ret .non J := by
      refine try_err (I' := J) (fl := none) ?_ rfl
      unfold b_l_told
      simp -implicitDefEqProofs [hp, toP, bad]
    simp -implicitDefEqProofs [e, toN]
  | some k =>
    rw [ho] at hp
    have e : tryS "InvalidType" (sdNone .non) b_l_told [some (.str t), none] J = .ret k.d J := by
      refine try_ret ?_
      unfold b_l_told
      simp -implicitDefEqProofs [hp, toP]
    simp -implicitDefEqProofs [e, toN, fin_ty]
theorem toN_shp {t : List Nat} {d : Nat} : shp 64 (toN (pt 60 t d)) = true := by
  cases ho : pt 60 t d with
  | none => simp [toN]
  | some k =>
    have := pt_good ho
    exact shp_ty this.2 (by omega)
def Ty.tx : Ty → List Nat
  | .nm s => s
  | .li t => 91 :: (t.tx ++ [93])
  | .mu t => t.tx ++ [33]
def Ty.ls : Ty → Nat
  | .nm _ => 0
  | .li t => t.ls + 1
  | .mu t => t.ls
theorem format_ok : ∀ (n : Nat) (k : Ty), k.dp ≤ n → k.tx.length ≤ 1000 → W_format_type n 0 [k.d] J = .ok (.str k.tx) J
  | 0, k, h, _ => by cases k <;> simp [Ty.dp] at h
  | n + 1, k, h, hz => by
    show runDef 1 (b_format_type (W_format_type n 0)) [k.d] J = _
    rw [run_def]
    unfold b_format_type
    cases k with
    | nm s => simp -implicitDefEqProofs [ix0, ix1, Ty.tag, Ty.arg, Ty.tx]
    | li t =>
      have h' : t.tx.length + 2 ≤ 1000 := by simpa [Ty.tx] using hz
      have ih := format_ok n t (Nat.le_of_succ_le_succ h) (by omega)
      have h1 : (t_list == t_name) = false := by decide
      have h2 : t_list ≠ t_name := by decide
      have a1 : addD (.str [91]) (.str t.tx) J = .ok (.str (91 :: t.tx)) J := o_adds (by simp; omega)
      have a2 : addD (.str (91 :: t.tx)) (.str [93]) J = .ok (.str (91 :: (t.tx ++ [93]))) J := o_adds (by simp; omega)
      simp -implicitDefEqProofs [-o_adds, ix0, ix1, Ty.tag, Ty.arg, Ty.tx, h1, h2, ih, a1, a2]
    | mu t =>
      have h' : t.tx.length + 1 ≤ 1000 := by simpa [Ty.tx] using hz
      have ih := format_ok n t (Nat.le_of_succ_le_succ h) (by omega)
      have h2 : t_must ≠ t_name := by decide
      have h3 : t_must ≠ t_list := by decide
      have a1 : addD (.str t.tx) (.str [33]) J = .ok (.str (t.tx ++ [33])) J := o_adds (by simp; omega)
      simp -implicitDefEqProofs [-o_adds, ix0, ix1, Ty.tag, Ty.arg, Ty.tx, h2, h3, ih, a1]
theorem base_ok {k : Ty} (hd : k.dp ≤ 1000) : F_base_of [k.d] J = .ok (.str k.str) J := by
  have key : ∀ (k : Ty) (n : Nat), k.dp < n → whileN (boolE (bin2 neD (bin2 ixDD (getV 0) (cV (.int 0))) (cV (.str t_name)))) (seqS (asgS (bin2 ixDD (getV 0) (cV (.int 1))) (nameT 0)) nxS) n [some k.d] J = .nx [some (Ty.nm k.str).d] J := by
    intro k
    induction k with
    | nm s =>
      intro n h
      obtain ⟨n, rfl⟩ : ∃ m, n = m + 1 := ⟨n - 1, by omega⟩
      exact while_no (by simp -implicitDefEqProofs [ix0, Ty.tag])
    | li t ih =>
      intro n h
      obtain ⟨n, rfl⟩ : ∃ m, n = m + 1 := ⟨n - 1, by omega⟩
      have h2 : t_list ≠ t_name := by decide
      rw [while_nx (ρ2 := [some t.d]) (I1 := J) (I2 := J) (by simp -implicitDefEqProofs [ix0, Ty.tag, h2]) (by simp -implicitDefEqProofs [ix1, Ty.arg])]
      exact ih n (by simp only [Ty.dp] at h; omega)
    | mu t ih =>
      intro n h
      obtain ⟨n, rfl⟩ : ∃ m, n = m + 1 := ⟨n - 1, by omega⟩
      have h2 : t_must ≠ t_name := by decide
      rw [while_nx (ρ2 := [some t.d]) (I1 := J) (I2 := J) (by simp -implicitDefEqProofs [ix0, Ty.tag, h2]) (by simp -implicitDefEqProofs [ix1, Ty.arg])]
      exact ih n (by simp only [Ty.dp] at h; omega)
  have e := key k whileFuel (by unfold whileFuel; omega)
  unfold F_base_of b_base_of
  rw [run_def]
  simp -implicitDefEqProofs [whileS, e, ix1, Ty.arg]
theorem has_list_ok {k : Ty} (hd : k.dp ≤ 1000) : F_has_list [k.d] J = .ok (.bl (decide (0 < k.ls))) J := by
  have key : ∀ (k : Ty) (n : Nat), k.dp < n → whileN (boolE (bin2 neD (bin2 ixDD (getV 0) (cV (.int 0))) (cV (.str t_name)))) (seqS (ifS (boolE (bin2 eqD (bin2 ixDD (getV 0) (cV (.int 0))) (cV (.str t_list)))) (seqS (retS (cV (.bl true))) nxS) nxS) (seqS (asgS (bin2 ixDD (getV 0) (cV (.int 1))) (nameT 0)) nxS)) n [some k.d] J
      = if 0 < k.ls then .ret (.bl true) J else .nx [some (Ty.nm k.str).d] J := by
    intro k
    induction k with
    | nm s =>
      intro n h
      obtain ⟨n, rfl⟩ : ∃ m, n = m + 1 := ⟨n - 1, by omega⟩
      rw [if_neg (by simp [Ty.ls])]
      exact while_no (by simp -implicitDefEqProofs [ix0, Ty.tag])
    | li t ih =>
      intro n h
      obtain ⟨n, rfl⟩ : ∃ m, n = m + 1 := ⟨n - 1, by omega⟩
      have h2 : t_list ≠ t_name := by decide
      rw [if_pos (by simp [Ty.ls])]
      exact while_ret (I1 := J) (by simp -implicitDefEqProofs [ix0, Ty.tag, h2]) (by simp -implicitDefEqProofs [ix0, ix1, Ty.tag, Ty.arg])
    | mu t ih =>
      intro n h
      obtain ⟨n, rfl⟩ : ∃ m, n = m + 1 := ⟨n - 1, by omega⟩
      have h2 : t_must ≠ t_name := by decide
      have h3 : t_must ≠ t_list := by decide
      rw [while_nx (ρ2 := [some t.d]) (I1 := J) (I2 := J) (by simp -implicitDefEqProofs [ix0, Ty.tag, h2]) (by simp -implicitDefEqProofs [ix0, ix1, Ty.tag, Ty.arg, h3])]
      exact ih n (by simp only [Ty.dp] at h; omega)
  have e := key k whileFuel (by unfold whileFuel; omega)
  unfold F_has_list b_has_list
  rw [run_def]
  by_cases hl : 0 < k.ls
  · rw [if_pos hl] at e
    simp -implicitDefEqProofs [whileS, e, hl]
  · rw [if_neg hl] at e
    simp -implicitDefEqProofs [whileS, e, hl]
end
end K01
/-! K01T: fits -/
namespace K01
open PySem PySem.Spec L2 MP
inductive Vl (J : MH) : D → Prop where
  | non : Vl J .non
  | bl (b : Bool) : Vl J (.bl b)
  | int (i : Int) : Vl J (.int i)
  | str (s : List Nat) (h : s.length ≤ 1000) : Vl J (.str s)
  | lst (xs : List D) : Vl J (.lst xs)
  | tup (xs : List D) : Vl J (.tup xs)
  | loc (n : Nat) (kvs : List (KD × D)) (h : J[n]? = some (.dct kvs)) : Vl J (.loc n)
section
variable {J : MH}
theorem isi_of {v : D} {t T : String} (h : tyName J v = some t) : isiD T v J = .ok (.bl (isiT t T)) J := by unfold isiD; rw [h]
def nmOf (v : D) : String := match v with
  | .non => "NoneType"
  | .bl _ => "bool"
  | .int _ => "int"
  | .str _ => "str"
  | .tup _ => "tuple"
  | .lst _ => "list"
  | .scr _ => "list"
  | .loc _ => "dict"
theorem ty_vl {v : D} (h : Vl J v) : tyName J v = some (nmOf v) := by
  cases h with
  | loc n kvs h => unfold tyName nmOf; dsimp only; rw [h]
  | _ => rfl
theorem isi {v : D} (h : Vl J v) (T : String) : isiD T v J = .ok (.bl (isiT (nmOf v) T)) J := isi_of (ty_vl h)
theorem le1 {a b : Nat} : leS (.str [a]) (.str [b]) J = .ok (.bl (decide ((a : Int) ≤ (b : Int)))) J := by
  show Res.ok (D.bl (!decide ([b] < [a]))) J = _
  have : ([b] < [a]) = (b < a) := by
    apply propext
    constructor
    · intro h
      cases h with
      | rel h => exact h
      | cons h => cases h
    · exact fun h => .rel h
  rw [show (!decide ([b] < [a])) = decide ((a : Int) ≤ (b : Int)) from by
    by_cases h : b < a
    · rw [decide_eq_true (this ▸ h), decide_eq_false (by omega)]; rfl
    · rw [decide_eq_false (this ▸ h), decide_eq_true (by omega)]; rfl]
def txB (c : Nat) : Bool := decide ((32 : Int) ≤ (c : Int)) && (decide ((c : Int) ≤ 126) && !((c : Int) == 37))
theorem is_text_ok {s : List Nat} (hT : TB J) : F_is_text [.str s] J = .ok (.bl (s.all txB)) J := by
  unfold F_is_text b_is_text
  rw [run_def]
  have hg : genL true ⟨s.map fun c => .str [c], none⟩ (wipeR [some (.str s), none] [1]) (ctName 1) (andE (chain2 leS leS (cV (.str [32])) (getV 1) (cV (.str [126]))) (bin2 neD (bltE ordD [(getV 1)]) (cV (.int 37)))) (s.map fun c => .str [c]) J = .ok (.bl (s.all txB)) J := by
    refine gen_all fun c' _ => ⟨[some (.str s), some (.str [c'])], rfl, ?_⟩
    have ho : ∀ J, ordD [.str [c']] J = .ok (.int c') J := fun J => rfl
    unfold andE chain2 txB
    by_cases h1 : (32 : Int) ≤ (c' : Int)
    · by_cases h2 : (c' : Int) ≤ 126
      · simp -implicitDefEqProofs [le1, h1, h2, ho]
      · simp -implicitDefEqProofs [le1, h1, h2, ho]
    · simp -implicitDefEqProofs [le1, h1, ho]
  have hi : isiD "str" (.str s) J = .ok (.bl true) J := by rw [isi_of (t := "str") rfl]; rfl
  simp -implicitDefEqProofs [hi, e_genE, hT.2, hg]
theorem l_text_ok {s : List Nat} (hz : s.length ≤ 1000) {sc : List Nat} : bltE allD [(lcE (seqI (getV 1)) [2] (ctName 2) yesT (andE (chain2 leS leS (cV (.int 32)) (bltE ordD [(getV 2)]) (cV (.int 126))) (bin2 neD (bltE ordD [(getV 2)]) (cV (.int 37)))))] [some (.str sc), some (.str s), none] J = .ok (.bl (s.all txB)) J := by
  have hg : lcL ⟨s.map fun c => .str [c], none⟩ J.length (wipeR [some (.str sc), some (.str s), none] [2]) (ctName 2) yesT (andE (chain2 leS leS (cV (.int 32)) (bltE ordD [(getV 2)]) (cV (.int 126))) (bin2 neD (bltE ordD [(getV 2)]) (cV (.int 37)))) (s.map fun c => .str [c]) (J ++ [.lst []]) = .ok () (J ++ [.lst ([] ++ s.map fun x => .bl (txB x))]) := by
    refine lc_all rfl (by simp; omega) fun c' _ => ⟨[some (.str sc), some (.str s), some (.str [c'])], rfl, fun J' => ?_⟩
    have ho : ∀ J, ordD [.str [c']] J = .ok (.int c') J := fun J => rfl
    unfold andE chain2 txB
    by_cases h1 : (32 : Int) ≤ (c' : Int)
    · by_cases h2 : (c' : Int) ≤ 126
      · simp -implicitDefEqProofs [h1, h2, ho]
      · simp -implicitDefEqProofs [h1, h2, ho]
    · simp -implicitDefEqProofs [h1, ho]
  rw [List.nil_append] at hg
  have hf : fin J (.loc J.length) (J ++ [.lst (s.map fun x => .bl (txB x))]) = .ok (.lst (s.map fun x => .bl (txB x))) J := fin_new (unders_map (fun _ => by simp) _)
  simp -implicitDefEqProofs [e_lcE, hg, hf, o_all]
theorem int_ok {v : D} (h : Vl J v) : F_is_int [v] J = .ok (.bl (isiT (nmOf v) "int" && !isiT (nmOf v) "bool")) J := by
  unfold F_is_int b_is_int
  rw [run_def]
  cases hb : isiT (nmOf v) "int" <;> simp -implicitDefEqProofs [andE, isi h, hb]
theorem l_int_ok {v : D} (h : Vl J v) : F_l_is_integer [v] J = .ok (.bl (isiT (nmOf v) "int" && !isiT (nmOf v) "bool")) J := by
  unfold F_l_is_integer b_l_is_integer
  rw [run_def]
  cases hb : isiT (nmOf v) "int" <;> simp -implicitDefEqProofs [andE, isi h, hb]
theorem notint {v : D} (h : ∀ i, v ≠ .int i) : (isiT (nmOf v) "int" && !isiT (nmOf v) "bool") = false := by
  cases v with
  | int i => exact absurd rfl (h i)
  | _ => rfl
theorem fits_int {v : D} (h : Vl J v) : ∃ b, F_fits [.str t_Int, v] J = .ok (.bl b) J ∧ F_l_fits [.str t_Int, v] J = .ok (.bl b) J := by
  have e1 := int_ok h
  have e2 := l_int_ok h
  have e3 : negD (.int 2147483648) J = .ok (.int (-2147483648)) J := rfl
  unfold F_fits F_l_fits b_fits b_l_fits
  simp only [run_def]
  by_cases hi : ∃ i, v = .int i
  · obtain ⟨i, rfl⟩ := hi
    rw [show (isiT (nmOf (.int i)) "int" && !isiT (nmOf (.int i)) "bool") = true from rfl] at e1 e2
    by_cases h1 : (-2147483648 : Int) ≤ i
    · exact ⟨decide (i ≤ 2147483647), by simp -implicitDefEqProofs [andE, chain2, e1, h1], by simp -implicitDefEqProofs [andE, chain2, e2, e3, h1]⟩
    · exact ⟨false, by simp -implicitDefEqProofs [andE, chain2, e1, h1], by simp -implicitDefEqProofs [andE, chain2, e2, e3, h1]⟩
  · rw [notint fun i hv => hi ⟨i, hv⟩] at e1 e2
    exact ⟨false, by simp -implicitDefEqProofs [andE, e1], by simp -implicitDefEqProofs [andE, e2]⟩
theorem is_text_no {v : D} (h : Vl J v) (hs : isiT (nmOf v) "str" = false) : F_is_text [v] J = .ok (.bl false) J := by
  unfold F_is_text b_is_text
  rw [run_def]
  simp -implicitDefEqProofs [isi h, hs]
theorem fits_text {v : D} (h : Vl J v) (hT : TB J) : ∃ b, F_fits [.str t_Text, v] J = .ok (.bl b) J ∧ F_l_fits [.str t_Text, v] J = .ok (.bl b) J := by
  have h1 : t_Text ≠ t_Int := by decide
  unfold F_fits F_l_fits b_fits b_l_fits
  simp only [run_def]
  cases hs : isiT (nmOf v) "str" with
  | false =>
    have e1 := is_text_no h hs
    have e2 := isi h "str"
    rw [hs] at e2
    exact ⟨false, by simp -implicitDefEqProofs [h1, e1], by simp -implicitDefEqProofs [andE, h1, e2]⟩
  | true =>
    cases h with
    | str s hz =>
      have e1 := is_text_ok (s := s) hT
      have e2 : isiD "str" (.str s) J = .ok (.bl true) J := by rw [isi_of (t := "str") rfl]; rfl
      have e3 := l_text_ok (J := J) hz (sc := t_Text)
      refine ⟨s.all txB, by simp -implicitDefEqProofs [h1, e1], ?_⟩
      generalize (bltE allD [(lcE (seqI (getV 1)) [2] (ctName 2) yesT (andE (chain2 leS leS (cV (.int 32)) (bltE ordD [(getV 2)]) (cV (.int 126))) (bin2 neD (bltE ordD [(getV 2)]) (cV (.int 37)))))]) = g at e3
      simp -implicitDefEqProofs [andE, h1, e2, e3]
    | _ => cases hs
theorem fits_truth {v : D} (h : Vl J v) : ∃ b, F_fits [.str t_Truth, v] J = .ok (.bl b) J ∧ F_l_fits [.str t_Truth, v] J = .ok (.bl b) J := by
  have h1 : t_Truth ≠ t_Int := by decide
  have h2 : t_Truth ≠ t_Text := by decide
  unfold F_fits F_l_fits b_fits b_l_fits
  simp only [run_def]
  exact ⟨_, by simp -implicitDefEqProofs [h1, h2, isi h]; rfl, by simp -implicitDefEqProofs [h1, h2, isi h]⟩
end
end K01
/-! K01U: what the law draws -/
namespace K01
open PySem PySem.Spec L2 MP
def JJ (R : MH) (a : Nat) (b : Int) : MH := .tab "" "is_name" :: .tab "" "is_text" :: .lst [nI a, .int b] :: R
def Jok (R J : MH) : Prop := ∃ (a : Nat) (b : Int), 0 ≤ b ∧ J = JJ R a b
section
variable {R J J' : MH}
theorem Jok.len (h : Jok R J) : J.length = 3 + R.length := by
  obtain ⟨a, b, _, rfl⟩ := h
  simp [JJ]; omega
theorem Jok.tb (h : Jok R J) : TB J := by
  obtain ⟨a, b, _, rfl⟩ := h
  exact ⟨rfl, rfl⟩
theorem Jok.app (h : Jok R J) (c : Cell) : Jok (R ++ [c]) (J ++ [c]) := by
  obtain ⟨a, b, h0, rfl⟩ := h
  exact ⟨a, b, h0, rfl⟩
theorem Jok.cut {c : Cell} (h : Jok (R ++ [c]) J) : ∃ J', Jok R J' ∧ J = J' ++ [c] := by
  obtain ⟨a, b, h0, rfl⟩ := h
  exact ⟨JJ R a b, ⟨a, b, h0, rfl⟩, rfl⟩
theorem Jok.like (h : Jok R J) (h' : Jok R J') (i : Nat) (c : Cell) (hc : J'[i]? = some c) : J[i]? = some c ∨ c.under J.length = true := by
  obtain ⟨a, b, _, rfl⟩ := h
  obtain ⟨a', b', _, rfl⟩ := h'
  match i with
  | 0 => exact .inl hc
  | 1 => exact .inl hc
  | 2 =>
    cases hc
    refine .inr ?_
    simp [Cell.under]
  | i + 3 => exact .inl hc
theorem trim_jj (h : Jok R J) (h' : Jok R J') {d : D} (hd : d.under J.length = true) (K : MH) : trim J d (J' ++ K) = J' := by
  have hl : J.length = J'.length := h.len.trans h'.len.symm
  unfold trim
  rw [if_pos ⟨hd, fun i c hi hc => by
    rw [List.getElem?_append_left (by omega)] at hc
    exact h.like h' i c hc⟩, hl, List.take_left]
theorem fin_jj (h : Jok R J) (h' : Jok R J') {xs : List D} (hx : unders J.length xs = true) : fin J (.loc J.length) (J' ++ [.lst xs]) = .ok (.lst xs) J' := by
  have hl : J.length = J'.length := h.len.trans h'.len.symm
  unfold fin
  dsimp only
  rw [if_pos (Nat.le_refl _), hl, new_get]
  dsimp only
  rw [new_set, trim_jj h h' (by rw [under_lst]; exact hx)]
theorem trim_j (h : Jok R J) (h' : Jok R J') (d : D) : trim J d J' = J' := trim_len (h'.len.trans h.len.symm)
theorem draw (ns : List Int) (h : Jok R J) {s : Int} (hs : 0 < s ∧ s < 2 ^ 64) : ∃ (d : Nat) (J' : MH), Jok R J' ∧ (d : Int) < s ∧ F_l_draw [.loc 2, .scr ns, .int s] J = .ok (nI d) J' := by
  obtain ⟨a, b, h0, rfl⟩ := h
  obtain ⟨d, a', b', h1, h2, h3⟩ := draw_ok ns hs (i := 2) (J := JJ R a b) h0 rfl
  exact ⟨d, JJ R a' b', ⟨a', b', h1, rfl⟩, h2, h3⟩
theorem pick (ns : List Int) (h : Jok R J) {sg : List Nat} (h0 : 0 < sg.length) (hz : sg.length ≤ 1000) : ∃ c J', Jok R J' ∧ c ∈ sg ∧ F_l_pick [.loc 2, .scr ns, .str sg] J = .ok (.str [c]) J' := by
  obtain ⟨d, J', h1, h2, h3⟩ := draw ns h (s := (sg.length : Int)) ⟨by omega, by omega⟩
  have hlt : d < sg.length := by omega
  have h3' : F_l_draw [.loc 2, .scr ns, nI sg.length] J = .ok (nI d) J' := h3
  refine ⟨sg[d], J', h1, List.getElem_mem hlt, ?_⟩
  have hz' : sg.length ≤ 16777216 := by omega
  have e : (sg.drop d).take (d + 1 - d) = [sg[d]] := by
    rw [List.drop_eq_getElem_cons hlt, show d + 1 - d = 1 by omega]; rfl
  unfold F_l_pick b_l_pick
  rw [run_def]
  have hd : d ≤ sg.length := by omega
  have hs : ∀ J, slD (.str sg) (some (cI d)) (some (cI (d + 1))) J = .ok (.str [sg[d]]) J := fun J => by rw [o_sl hz' hd, e]
  simp -implicitDefEqProofs [-o_sl, hz', h3', hs, trim_j h h1]
theorem LET_NAM : ∀ c ∈ t_LET, c ∈ t_NAM := by decide
noncomputable def teN : EF := callE 3 F_l_pick [(getV 0), (getV 1), (bin2 addD (getV 2) (cV (.str t_digu)))]
theorem names_loop (ns : List Int) {L0 : List D} {x3 x4 : Option D} {n : Nat} (hn : n = 3 + R.length) : ∀ (L : List D) (acc : List (List Nat)) (J : MH), Jok R J → acc.length + L.length ≤ 1000 →
    ∃ (cs : List Nat) (J' : MH), Jok R J' ∧ cs.length = L.length ∧ (∀ c ∈ cs, c ∈ t_NAM) ∧
      lcL ⟨L0, none⟩ n [some (.loc 2), some (.scr ns), some (.str t_LET), x3, none] (ctName 4) yesT teN L (J ++ [.lst (acc.map D.str)]) = .ok () (J' ++ [.lst ((acc ++ cs.map fun c => [c]).map D.str)])
  | [], acc, J, hJ, _ => ⟨[], J, hJ, rfl, (fun _ h => by cases h), by simp only [List.map_nil, List.append_nil]; rfl⟩
  | x :: L, acc, J, hJ, hl => by
    rw [List.length_cons] at hl
    have e0 : ∀ I, addD (.str t_LET) (.str t_digu) I = .ok (.str t_NAM) I := fun I => rfl
    obtain ⟨c, J1, h1, h2, h3⟩ := pick ns (hJ.app (.lst (acc.map D.str))) (sg := t_NAM) (by decide) (by decide)
    obtain ⟨J2, h4, rfl⟩ := h1.cut
    obtain ⟨cs, J3, g1, g2, g3, g4⟩ := names_loop ns (L0 := L0) (x3 := x3) (x4 := x4) hn L (acc ++ [[c]]) J2 h4 (by rw [List.length_append, List.length_cons, List.length_nil]; omega)
    refine ⟨c :: cs, J3, g1, by simp [g2], fun y hy => by
      rcases List.mem_cons.mp hy with rfl | hy
      · exact h2
      · exact g3 y hy, ?_⟩
    have hn2 : n = J2.length := hn.trans h4.len.symm
    have te : teN [some (.loc 2), some (.scr ns), some (.str t_LET), x3, some x] (J ++ [.lst (acc.map D.str)]) = .ok (.str [c]) (J2 ++ [.lst (acc.map D.str)]) := by
      unfold teN
      simp -implicitDefEqProofs [e0, h3]
    unfold lcL
    rw [if_pos (show watchOk ⟨L0, none⟩ _ = true from rfl)]
    dsimp only [ctName, List.set, yesT, Res.calm, Res.bind]
    rw [if_pos rfl, te]
    dsimp only
    rw [hn2, new_get]
    dsimp only
    rw [if_pos (decide_eq_true (by rw [sizeLine_eq, List.length_map]; omega)), new_set, ← hn2]
    rw [show List.map D.str acc ++ [D.str [c]] = (acc ++ [[c]]).map D.str by simp, g4]
    simp
theorem joinL_one : ∀ cs : List Nat, TL.joinL [] (cs.map fun c => [c]) = cs
  | [] => rfl
  | [c] => rfl
  | c :: d :: r => by
    have ih := joinL_one (d :: r)
    simp only [List.map_cons, TL.joinL] at ih ⊢
    rw [ih]; rfl
theorem upTo_len {a b : Nat} : (MP.upTo a b).length = b - a := by simp [MP.upTo]
theorem name_ok (ns : List Int) (h : Jok R J) : ∃ c r J', Jok R J' ∧ c ∈ t_LET ∧ (∀ x ∈ r, x ∈ t_NAM) ∧ r.length ≤ 31 ∧ F_l_name [.loc 2, .scr ns] J = .ok (.str (c :: r)) J' := by
  obtain ⟨d1, J1, h1, l1, e1⟩ := draw ns h (s := 4) (by decide)
  obtain ⟨d2, J2, h2, l2, e2⟩ := draw ns h1 (s := 4) (by decide)
  obtain ⟨d3, J3, h3, l3, e3⟩ := draw ns h2 (s := 2) (by decide)
  obtain ⟨c, J4, h4, l4, e4⟩ := pick ns h3 (sg := t_LET) (by decide) (by decide)
  have a28 : addD (.int 28) (nI d2) J2 = .ok (nI (28 + d2)) J2 := rfl
  obtain ⟨cnt, hc, hi⟩ : ∃ cnt, cnt ≤ 31 ∧ ixD (.lst [nI d1, nI (28 + d2)]) (nI d3) J3 = .ok (nI cnt) J3 := by
    have : d3 = 0 ∨ d3 = 1 := by omega
    rcases this with rfl | rfl
    · exact ⟨d1, by omega, o_ixln rfl⟩
    · exact ⟨28 + d2, by omega, o_ixln rfl⟩
  obtain ⟨cs, J5, h5, k1, k2, k3⟩ := names_loop ns (L0 := MP.upTo 0 cnt) (x3 := some (nI cnt)) (x4 := none) (n := J4.length) h4.len (MP.upTo 0 cnt) [] J4 h4 (by rw [upTo_len]; simp; omega)
  rw [upTo_len, Nat.sub_zero] at k1
  refine ⟨c, cs, J5, h5, l4, k2, by omega, ?_⟩
  have hf : fin J4 (.loc J4.length) (J5 ++ [.lst ((cs.map fun c => [c]).map D.str)]) = .ok (.lst ((cs.map fun c => [c]).map D.str)) J5 := by
    refine fin_jj h4 h5 ?_
    rw [List.map_map]
    exact unders_map (fun _ => by simp) cs
  have hj : joinD (.str []) [.lst ((cs.map fun c => [c]).map D.str)] J5 = .ok (.str cs) J5 := by
    have := o_join (I := J5) (ps := cs.map fun c => [c]) (s := []) (by
      have := sum_le (k := 1) (ps := cs.map fun c => [c]) (fun s hs => by
        obtain ⟨x, _, rfl⟩ := List.mem_map.mp hs
        simp)
      simp only [List.length_map] at this
      simp only [List.length_nil, Nat.zero_mul]
      omega)
    unfold pcsD at this
    rw [this, joinL_one]
  have ha : addD (.str [c]) (.str cs) J5 = .ok (.str (c :: cs)) J5 := o_adds (by simp; omega)
  unfold F_l_name b_l_name
  rw [run_def]
  change endD J (seqS _ (seqS _ (seqS (retS (bin2 addD _ (methE isStr joinD (cV (.str [])) [(lcE (rng1I (getV 3)) [4] (ctName 4) yesT teN)]))) nxS)) _ _) = _
  have hcz : cnt ≤ 16777216 := by omega
  simp only [List.map_nil, List.nil_append] at k3
  have hw : wipeR [some (D.loc 2), some (D.scr ns), some (D.str t_LET), some (nI cnt), none] [4] = [some (D.loc 2), some (D.scr ns), some (D.str t_LET), some (nI cnt), none] := rfl
  simp only [List.map_map] at k3 hf hj
  simp -implicitDefEqProofs [-o_adds, e1, e2, e3, a28, hi, e4, e_lcE, hcz, hw, k3, hf, hj, ha, trim_j h h5]
end
end K01
/-! K01V: the law's loops -/
namespace K01
open PySem PySem.Spec L2 MP
def Ty.wf : Ty → Prop
  | .nm _ => True
  | .li t => t.wf
  | .mu t => t.wf ∧ t.isMu = false
theorem name_last {s : List Nat} (h : nameOk s = true) : s.getLast? ≠ some 33 ∧ s.head? ≠ some 91 := by
  have hm := fun c hc => name_mem h c hc
  refine ⟨fun e => ?_, fun e => ?_⟩
  · exact absurd (hm 33 (List.mem_of_getLast? e)) (by decide)
  · exact absurd (hm 91 (List.mem_of_head? e)) (by decide)
where
  name_mem {s : List Nat} (h : nameOk s = true) : ∀ c ∈ s, c ∈ t_NAM := by
    cases s with
    | nil => intro c hc; cases hc
    | cons a r =>
      unfold nameOk at h
      simp only [Bool.and_eq_true] at h
      exact fun c hc => of_decide_eq_true (List.all_eq_true.mp h.2 c hc)
theorem pt_tx : ∀ (k : Ty) (n d : Nat), k.wf → nameOk k.str = true → k.ls ≤ d → k.tx.length < n → pt n k.tx d = some k
  | .nm s, n, d, _, hn, _, hl => by
    obtain ⟨n, rfl⟩ : ∃ m, n = m + 1 := ⟨n - 1, by omega⟩
    have hn : nameOk s = true := hn
    have h := name_last hn
    show pt (n + 1) s d = _
    unfold pt
    rw [if_neg h.1, if_neg (fun z => h.2 z.1), if_pos hn]
  | .li t, n, d, hw, hn, hd, hl => by
    obtain ⟨n, rfl⟩ : ∃ m, n = m + 1 := ⟨n - 1, by omega⟩
    have hd' : t.ls + 1 ≤ d := hd
    have hl' : t.tx.length + 2 < n + 1 := by
      simp only [Ty.tx, List.length_cons, List.length_append, List.length_nil] at hl; omega
    have ih := pt_tx t n (d - 1) hw hn (by omega) (by omega)
    show pt (n + 1) (91 :: t.tx ++ [93]) d = _
    unfold pt
    rw [List.getLast?_concat, if_neg (by simp), if_pos ⟨rfl, rfl, by omega⟩, show (91 :: t.tx ++ [93] : List Nat).tail.dropLast = t.tx from by simp, ih]
    rfl
  | .mu t, n, d, hw, hn, hd, hl => by
    obtain ⟨n, rfl⟩ : ∃ m, n = m + 1 := ⟨n - 1, by omega⟩
    have hl' : t.tx.length + 1 < n + 1 := by
      simp only [Ty.tx, List.length_cons, List.length_append, List.length_nil] at hl; omega
    have ih := pt_tx t n d hw.1 hn hd (by omega)
    show pt (n + 1) (t.tx ++ [33]) d = _
    rw [pt_bang, ih]
    simp only [hw.2, Bool.false_eq_true, if_false]
section
variable {R J : MH}
/-- the drawn type stands in the law's slots -/
def env (ns : List Int) (nm : List Nat) (k : Ty) (t : List Nat) (l : Nat) (x6 x7 x8 x9 x10 x11 x12 : Option D) : En :=
  [some (.scr ns), some (.loc 2), some (.str nm), some k.d, some (.str t), some (nI l), x6, x7, x8, x9, x10, x11, x12]
structure Kd (k : Ty) (nm : List Nat) (j : Nat) : Prop where
  wf : k.wf
  str : k.str = nm
  ls : k.ls = j
  dp : k.dp ≤ 1 + 2 * j
  len : k.tx.length ≤ nm.length + 3 * j
  mu : k.isMu = false
theorem loop1_step (ns : List Int) {nm nm0 : List Nat} {k : Ty} {j : Nat} (hk : Kd k nm j) (hz : nm.length ≤ 30 ∧ j < 5) (hJ : Jok R J) {x6 x7 x8 x9 x10 x11 x12 : Option D} :
    ∃ (k' : Ty) (J' : MH), Jok R J' ∧ Kd k' nm (j + 1) ∧ lb_law_1 (env ns nm0 k k.tx j x6 x7 x8 x9 x10 x11 x12) J = .nx (env ns nm0 k' k'.tx (j + 1) x6 x7 x8 x9 x10 x11 x12) J' := by
  obtain ⟨d, J1, h1, l1, e1⟩ := draw ns hJ (s := 2) (by decide)
  have hlen := hk.len
  have hmu : (k.tag == t_must) = false := by rw [k.tag_mu, hk.mu]
  have hne : k.tag ≠ t_must := beq_eq_false_iff_ne.mp hmu
  have a0 : ∀ t : List Nat, t.length ≤ 100 → ∀ J, addD (.str [91]) (.str t) J = .ok (.str (91 :: t)) J := fun t ht J => o_adds (by simp; omega)
  have a1 : ∀ t : List Nat, t.length ≤ 100 → ∀ J, addD (.str (91 :: t)) (.str [93]) J = .ok (.str (91 :: (t ++ [93]))) J := fun t ht J => o_adds (by simp; omega)
  have a2 : ∀ J, addD (.str k.tx) (.str [33]) J = .ok (.str (k.tx ++ [33])) J := fun J => o_adds (by simp; omega)
  have hd : d = 1 ∨ d = 0 := by omega
  unfold lb_law_1 env
  rcases hd with rfl | rfl
  · refine ⟨.li (.mu k), J1, h1, ⟨⟨hk.wf, hk.mu⟩, hk.str, by simp [Ty.ls, hk.ls], by have := hk.dp; simp only [Ty.dp]; omega, by simp only [Ty.tx, List.length_cons, List.length_append, List.length_nil]; omega, rfl⟩, ?_⟩
    simp -implicitDefEqProofs [-o_adds, e1, ix0, hne, a2, a0 (k.tx ++ [33]) (by simp; omega), a1 (k.tx ++ [33]) (by simp; omega), Ty.d, Ty.tx]
  · refine ⟨.li k, J1, h1, ⟨hk.wf, hk.str, by simp [Ty.ls, hk.ls], by have := hk.dp; simp only [Ty.dp]; omega, by simp only [Ty.tx, List.length_cons, List.length_append, List.length_nil]; omega, rfl⟩, ?_⟩
    simp -implicitDefEqProofs [-o_adds, e1, ix0, hne, a0 k.tx (by omega), a1 k.tx (by omega), Ty.d, Ty.tx]
theorem loop1 (ns : List Int) {nm nm0 : List Nat} (hz : nm.length ≤ 30) {L0 : List D} {x7 x8 x9 x10 x11 x12 : Option D} : ∀ (L : List D) (k : Ty) (j : Nat) (J : MH) (x6 : Option D), Kd k nm j → j + L.length ≤ 5 → Jok R J →
    ∃ (k' : Ty) (J' : MH) (y6 : Option D), Jok R J' ∧ Kd k' nm (j + L.length) ∧ forL ⟨L0, none⟩ (nameT 6) lb_law_1 L (env ns nm0 k k.tx j x6 x7 x8 x9 x10 x11 x12) J = .nx (env ns nm0 k' k'.tx (j + L.length) y6 x7 x8 x9 x10 x11 x12) J'
  | [], k, j, J, x6, hk, _, hJ => ⟨k, J, x6, hJ, hk, for_nil⟩
  | x :: L, k, j, J, x6, hk, hl, hJ => by
    rw [List.length_cons] at hl
    obtain ⟨k1, J1, h1, hk1, e1⟩ := loop1_step ns (nm0 := nm0) hk ⟨hz, by omega⟩ hJ (x6 := some x) (x7 := x7) (x8 := x8) (x9 := x9) (x10 := x10) (x11 := x11) (x12 := x12)
    obtain ⟨k2, J2, y6, h2, hk2, e2⟩ := loop1 ns (nm0 := nm0) hz (L0 := L0) (x7 := x7) (x8 := x8) (x9 := x9) (x10 := x10) (x11 := x11) (x12 := x12) L k1 (j + 1) J1 (some x) hk1 (by omega) h1
    rw [List.length_cons, show j + (L.length + 1) = j + 1 + L.length by omega]
    refine ⟨k2, J2, y6, h2, hk2, ?_⟩
    rw [for_nx (ρ1 := env ns nm0 k k.tx j (some x) x7 x8 x9 x10 x11 x12) (I1 := J) rfl e1]
    exact e2
theorem change (ns : List Int) {nm0 : List Nat} {k : Ty} {l : Nat} {t : List Nat} (hz : t.length ≤ 1000) (hJ : Jok R J) {x6 x7 x8 x9 x10 x11 x12 : Option D} :
    ∃ (t' : List Nat) (J' : MH) (y7 y8 : Option D), Jok R J' ∧ t'.length ≤ t.length + 2 ∧ lb_law_2 (env ns nm0 k t l x6 x7 x8 x9 x10 x11 x12) J = .nx (env ns nm0 k t' l x6 y7 y8 x9 x10 x11 x12) J' := by
  obtain ⟨a, J1, h1, l1, e1⟩ := draw ns hJ (s := ((t.length + 1 : Nat) : Int)) ⟨by omega, by omega⟩
  obtain ⟨c, J2, h2, l2, e2⟩ := pick ns h1 (sg := tq_13) (by decide) (by decide)
  obtain ⟨d, J3, h3, l3, e3⟩ := draw ns h2 (s := 3) (by decide)
  obtain ⟨q, J4, h4, l4, e4⟩ := draw ns h3 (s := 2) (by decide)
  have e1' : F_l_draw [.loc 2, .scr ns, nI (t.length + 1)] J = .ok (nI a) J1 := e1
  have hz' : t.length ≤ 16777216 := by omega
  have aa : ∀ J, addD (.str [c]) (.str [c]) J = .ok (.str [c, c]) J := fun J => o_adds (by simp)
  obtain ⟨m, hm, hi⟩ : ∃ m : List Nat, m.length ≤ 2 ∧ ixD (.lst [.str [c], .str [], .str [c, c]]) (nI d) J3 = .ok (.str m) J3 := by
    have : d = 0 ∨ d = 1 ∨ d = 2 := by omega
    rcases this with rfl | rfl | rfl
    · exact ⟨[c], by simp, o_ixln rfl⟩
    · exact ⟨[], by simp, o_ixln rfl⟩
    · exact ⟨[c, c], by simp, o_ixln rfl⟩
  have s1 : ∀ J, slD (.str t) none (some (cI a)) J = .ok (.str (t.take a)) J := fun J => by rw [o_sls hz', show cI a = ((a : Nat) : Int) from rfl, cut_to]
  have s2 : ∀ J, slD (.str t) (some (cI (a + q))) none J = .ok (.str (t.drop (a + q))) J := fun J => by rw [o_sls hz', show cI (a + q) = ((a + q : Nat) : Int) from rfl, cut_from]
  have l5 : (t.take a).length ≤ a := by rw [List.length_take]; omega
  have l5' : (t.take a).length ≤ t.length := by rw [List.length_take]; omega
  have l6 : (t.drop (a + q)).length ≤ t.length - a := by rw [List.length_drop]; omega
  have l7 : (t.drop (a + q)).length ≤ t.length := by rw [List.length_drop]; omega
  have a3 : ∀ J, addD (.str (t.take a)) (.str m) J = .ok (.str (t.take a ++ m)) J := fun J => o_adds (by omega)
  have a4 : ∀ J, addD (.str (t.take a ++ m)) (.str (t.drop (a + q))) J = .ok (.str (t.take a ++ m ++ t.drop (a + q))) J := fun J => o_adds (by rw [List.length_append]; omega)
  have hl : (t.take a ++ m ++ t.drop (a + q)).length ≤ t.length + 2 := by rw [List.length_append, List.length_append]; omega
  generalize t.take a ++ m ++ t.drop (a + q) = t2 at a4 hl
  generalize t.take a ++ m = t1 at a3 a4
  generalize t.take a = t0 at s1 a3
  generalize t.drop (a + q) = t3 at s2 a4
  refine ⟨t2, J4, some (nI a), some (.str [c]), h4, hl, ?_⟩
  unfold lb_law_2 env
  simp -implicitDefEqProofs [-o_adds, -o_sl, hz', e1', e2, e3, e4, aa, hi, s1, s2, a3, a4]
theorem loop2 (ns : List Int) {nm0 : List Nat} {k : Ty} {l : Nat} {L0 : List D} {x9 x10 x11 x12 : Option D} : ∀ (L : List D) (t : List Nat) (J : MH) (x6 x7 x8 : Option D), t.length + 2 * L.length ≤ 1000 → Jok R J →
    ∃ (t' : List Nat) (J' : MH) (y6 y7 y8 : Option D), Jok R J' ∧ t'.length ≤ t.length + 2 * L.length ∧ forL ⟨L0, none⟩ (nameT 6) lb_law_2 L (env ns nm0 k t l x6 x7 x8 x9 x10 x11 x12) J = .nx (env ns nm0 k t' l y6 y7 y8 x9 x10 x11 x12) J'
  | [], t, J, x6, x7, x8, _, hJ => ⟨t, J, x6, x7, x8, hJ, by simp, for_nil⟩
  | x :: L, t, J, x6, x7, x8, hl, hJ => by
    rw [List.length_cons] at hl
    obtain ⟨t1, J1, y7, y8, h1, l1, e1⟩ := change ns (nm0 := nm0) (k := k) (l := l) (t := t) (by omega) hJ (x6 := some x) (x7 := x7) (x8 := x8) (x9 := x9) (x10 := x10) (x11 := x11) (x12 := x12)
    obtain ⟨t2, J2, z6, z7, z8, h2, l2, e2⟩ := loop2 ns (nm0 := nm0) (k := k) (l := l) (L0 := L0) (x9 := x9) (x10 := x10) (x11 := x11) (x12 := x12) L t1 J1 (some x) y7 y8 (by omega) h1
    refine ⟨t2, J2, z6, z7, z8, h2, by rw [List.length_cons]; omega, ?_⟩
    rw [for_nx (ρ1 := env ns nm0 k t l (some x) x7 x8 x9 x10 x11 x12) (I1 := J) rfl e1]
    exact e2
theorem loop3 (ns : List Int) {nm0 : List Nat} {k : Ty} {l : Nat} {t : List Nat} {L0 : List D} {x6 x7 x8 x10 x11 x12 : Option D} (hJ : Jok R J) : ∀ (L : List (List Nat)) (x9 : Option D), (∀ s ∈ L, s.length ≤ 1000) →
    ∃ y9 : Option D, forL ⟨L0, none⟩ (nameT 9) lb_law_3 (L.map D.str) (env ns nm0 k t l x6 x7 x8 x9 x10 x11 x12) J = .nx (env ns nm0 k t l x6 x7 x8 y9 x10 x11 x12) J
  | [], x9, _ => ⟨x9, for_nil⟩
  | s :: L, x9, hl => by
    have h1 := is_name_ok (hl s List.mem_cons_self) hJ.tb
    have h2 := l_is_name_ok (J := J) (hl s List.mem_cons_self)
    have h3 : isiD "bool" (.bl (nameOk s)) J = .ok (.bl true) J := rfl
    obtain ⟨y9, e⟩ := loop3 ns (nm0 := nm0) (k := k) (l := l) (t := t) (L0 := L0) (x6 := x6) (x7 := x7) (x8 := x8) (x10 := x10) (x11 := x11) (x12 := x12) hJ L (some (.str s)) fun s hs => hl s (List.mem_cons_of_mem _ hs)
    refine ⟨y9, ?_⟩
    rw [List.map_cons, for_nx (ρ1 := env ns nm0 k t l x6 x7 x8 (some (.str s)) x10 x11 x12) (ρ2 := env ns nm0 k t l x6 x7 x8 (some (.str s)) x10 x11 x12) (I1 := J) (I2 := J) rfl (by
      unfold lb_law_3 env
      simp -implicitDefEqProofs [h1, h2, h3])]
    exact e
def FitOk (J : MH) (sc : List Nat) : Prop := ∀ v, Vl J v → ∃ b, F_fits [.str sc, v] J = .ok (.bl b) J ∧ F_l_fits [.str sc, v] J = .ok (.bl b) J
theorem loop5 (ns : List Int) {nm0 : List Nat} {k : Ty} {l : Nat} {t sc : List Nat} {L0 : List D} {x6 x7 x8 x9 x10 : Option D} (hf : FitOk J sc) : ∀ (L : List D) (x12 : Option D), (∀ v ∈ L, Vl J v) →
    ∃ y12 : Option D, forL ⟨L0, none⟩ (nameT 12) lb_law_5 L (env ns nm0 k t l x6 x7 x8 x9 x10 (some (.str sc)) x12) J = .nx (env ns nm0 k t l x6 x7 x8 x9 x10 (some (.str sc)) y12) J
  | [], x12, _ => ⟨x12, for_nil⟩
  | v :: L, x12, hl => by
    obtain ⟨b, h1, h2⟩ := hf v (hl v List.mem_cons_self)
    have h3 : isiD "bool" (.bl b) J = .ok (.bl true) J := rfl
    obtain ⟨y12, e⟩ := loop5 ns (nm0 := nm0) (k := k) (l := l) (t := t) (L0 := L0) (x6 := x6) (x7 := x7) (x8 := x8) (x9 := x9) (x10 := x10) hf L (some v) fun s hs => hl s (List.mem_cons_of_mem _ hs)
    refine ⟨y12, ?_⟩
    rw [for_nx (ρ1 := env ns nm0 k t l x6 x7 x8 x9 x10 (some (.str sc)) (some v)) (ρ2 := env ns nm0 k t l x6 x7 x8 x9 x10 (some (.str sc)) (some v)) (I1 := J) (I2 := J) rfl (by
      unfold lb_law_5 env
      simp -implicitDefEqProofs [h1, h2, h3])]
    exact e
theorem fit_ok (hJ : TB J) {sc : List Nat} (h : sc = t_Int ∨ sc = t_Text ∨ sc = t_Truth) : FitOk J sc := fun v hv => by
  rcases h with rfl | rfl | rfl
  · exact fits_int hv
  · exact fits_text hv hJ
  · exact fits_truth hv
def edges (n : Nat) : List D := [.non, .bl true, .bl false, .int 0, .int (-2147483648), .int (-2147483649), .int 2147483647, .int 2147483648, .str [], .str tq_10, .str [10], .lst [], .lst [.int 1], .tup [.str t_ref, .str [65], .int 1], .loc n]
def RE : MH := [.dct []]
theorem at3 {J : MH} (h : Jok RE J) : J[3]? = some (.dct []) := by
  obtain ⟨a, b, _, rfl⟩ := h
  rfl
theorem vl_all (hJ : Jok RE J) {d : Nat} {t : List Nat} (ht : t.length ≤ 1000) : ∀ v ∈ edges 3 ++ [nI d, .str t], Vl J v := by
  intro v hv
  simp only [edges, List.cons_append, List.nil_append, List.mem_cons, List.not_mem_nil, or_false] at hv
  rcases hv with rfl | rfl | rfl | rfl | rfl | rfl | rfl | rfl | rfl | rfl | rfl | rfl | rfl | rfl | rfl | rfl | rfl
  · exact .non
  · exact .bl _
  · exact .bl _
  · exact .int _
  · exact .int _
  · exact .int _
  · exact .int _
  · exact .int _
  · exact .str _ (by decide)
  · exact .str _ (by decide)
  · exact .str _ (by decide)
  · exact .lst _
  · exact .lst _
  · exact .tup _
  · exact .loc 3 [] (at3 hJ)
  · exact .int _
  · exact .str _ ht
theorem loop4 (ns : List Int) {nm0 : List Nat} {k : Ty} {l : Nat} {t : List Nat} (ht : t.length ≤ 1000) {L0 : List D} {x6 x7 x8 x9 : Option D} : ∀ (L : List (List Nat)) (J : MH) (x11 x12 : Option D), Jok RE J → (∀ sc ∈ L, sc = t_Int ∨ sc = t_Text ∨ sc = t_Truth) →
    ∃ (J' : MH) (y11 y12 : Option D), Jok RE J' ∧ forL ⟨L0, none⟩ (nameT 11) lb_law_4 (L.map D.str) (env ns nm0 k t l x6 x7 x8 x9 (some (.lst (edges 3))) x11 x12) J = .nx (env ns nm0 k t l x6 x7 x8 x9 (some (.lst (edges 3))) y11 y12) J'
  | [], J, x11, x12, hJ, _ => ⟨J, x11, x12, hJ, for_nil⟩
  | sc :: L, J, x11, x12, hJ, hl => by
    obtain ⟨d, J1, h1, l1, e1⟩ := draw ns hJ (s := 1099511627776) (by decide)
    have hs : ∀ J, shlD (.int 1) (.int 40) J = .ok (.int 1099511627776) J := fun J => by
      show (if decide (0 ≤ (40 : Int) ∧ (40 : Int) ≤ 1000000 ∧ (1 : Int).natAbs < 2 ^ 64) then Res.ok (D.int (1 * 2 ^ (40 : Int).toNat)) J else .stuck) = _
      rw [if_pos (by decide)]
      rfl
    have ha : ∀ J, addD (.lst (edges 3)) (.lst [nI d, .str t]) J = .ok (.lst (edges 3 ++ [nI d, .str t])) J := fun J => o_addl (by simp [edges])
    obtain ⟨y12, e5⟩ := loop5 ns (nm0 := nm0) (k := k) (l := l) (t := t) (sc := sc) (L0 := edges 3 ++ [nI d, .str t]) (x6 := x6) (x7 := x7) (x8 := x8) (x9 := x9) (x10 := some (.lst (edges 3))) (fit_ok h1.tb (hl sc List.mem_cons_self)) (edges 3 ++ [nI d, .str t]) x12 (vl_all h1 ht)
    obtain ⟨J2, z11, z12, h2, e⟩ := loop4 ns (nm0 := nm0) (k := k) (l := l) ht (L0 := L0) (x6 := x6) (x7 := x7) (x8 := x8) (x9 := x9) L J1 (some (.str sc)) y12 h1 fun s hs => hl s (List.mem_cons_of_mem _ hs)
    refine ⟨J2, z11, z12, h2, ?_⟩
    generalize hE : edges 3 = E at ha e5 e ⊢
    generalize hE2 : E ++ [nI d, .str t] = E2 at ha e5
    rw [List.map_cons, for_nx (ρ1 := env ns nm0 k t l x6 x7 x8 x9 (some (.lst E)) (some (.str sc)) x12) (ρ2 := env ns nm0 k t l x6 x7 x8 x9 (some (.lst E)) (some (.str sc)) y12) (I1 := J) (I2 := J1) rfl (by
      unfold lb_law_4
      unfold env at e5 ⊢
      simp -implicitDefEqProofs [hs, e1, ha, e5])]
    exact e
end
end K01
/-! K01W: the law -/
namespace K01
open PySem PySem.Spec L2 MP
section
variable {R J : MH}
theorem must_ok (ns : List Int) {nm nm0 : List Nat} {k : Ty} {j : Nat} (hk : Kd k nm j) (hz : nm.length ≤ 30 ∧ j ≤ 5) (hJ : Jok R J) {x6 x7 x8 x9 x10 x11 x12 : Option D} :
    ∃ (k' : Ty) (J' : MH), Jok R J' ∧ k'.wf ∧ k'.str = nm ∧ k'.ls = j ∧ k'.dp ≤ 20 ∧ k'.tx.length ≤ 46 ∧ sb_law_7 (env ns nm0 k k.tx j x6 x7 x8 x9 x10 x11 x12) J = .nx (env ns nm0 k' k'.tx j x6 x7 x8 x9 x10 x11 x12) J' := by
  obtain ⟨d, J1, h1, l1, e1⟩ := draw ns hJ (s := 2) (by decide)
  have hlen := hk.len
  have hdp := hk.dp
  have hmu : (k.tag == t_must) = false := by rw [k.tag_mu, hk.mu]
  have hne : k.tag ≠ t_must := beq_eq_false_iff_ne.mp hmu
  have a2 : ∀ J, addD (.str k.tx) (.str [33]) J = .ok (.str (k.tx ++ [33])) J := fun J => o_adds (by simp; omega)
  have hd : d = 1 ∨ d = 0 := by omega
  unfold sb_law_7 env
  rcases hd with rfl | rfl
  · refine ⟨.mu k, J1, h1, ⟨hk.wf, hk.mu⟩, hk.str, hk.ls, by simp only [Ty.dp]; omega, by simp only [Ty.tx, List.length_append, List.length_cons, List.length_nil]; omega, ?_⟩
    simp -implicitDefEqProofs [-o_adds, e1, ix0, hne, a2, Ty.d, Ty.tx]
  · refine ⟨k, J1, h1, hk.wf, hk.str, hk.ls, by omega, by omega, ?_⟩
    simp -implicitDefEqProofs [-o_adds, e1, ix0, hne]
theorem take_name {c : Nat} {r : List Nat} (hc : c ∈ t_LET) (hr : ∀ x ∈ r, x ∈ t_NAM) : nameOk ((c :: r).take 30) = true ∧ ((c :: r).take 30).length ≤ 30 := by
  rw [List.take_succ_cons]
  have h1 : (r.take 29).length + 1 ≤ 30 := by rw [List.length_take]; omega
  refine ⟨?_, by rw [List.length_cons]; omega⟩
  show (decide ((r.take 29).length + 1 ≤ 30) && decide (c ∈ t_LET) && (c :: r.take 29).all fun x => decide (x ∈ t_NAM)) = true
  rw [decide_eq_true h1, decide_eq_true hc]
  simp only [Bool.true_and]
  refine List.all_eq_true.mpr fun x hx => decide_eq_true ?_
  rcases List.mem_cons.mp hx with rfl | hx
  · exact LET_NAM _ hc
  · exact hr x (List.mem_of_mem_take hx)
theorem checks_ok (ns : List Int) {nm : List Nat} {k : Ty} {j : Nat} (hw : k.wf) (hs : k.str = nm.take 30) (hn : nameOk (nm.take 30) = true) (hl : k.ls = j) (hj : j ≤ 5) (hd : k.dp ≤ 20) (hx : k.tx.length ≤ 46) (hz : nm.length ≤ 1000) (hT : TB J) {x6 x7 x8 x9 x10 x11 x12 : Option D} :
    sb_law_8 (env ns nm k k.tx j x6 x7 x8 x9 x10 x11 x12) J = .nx (env ns nm k k.tx j x6 x7 x8 x9 x10 x11 x12) J ∧ sb_law_9 (env ns nm k k.tx j x6 x7 x8 x9 x10 x11 x12) J = .nx (env ns nm k k.tx j x6 x7 x8 x9 x10 x11 x12) J := by
  have hn' : nameOk k.str = true := by rw [hs]; exact hn
  have hp : F_parse_type [.str k.tx] J = .ok k.d J := by rw [parse_type_ok (by omega) hT, pt_tx k 60 5 hw hn' (by omega) (by omega)]; rfl
  have hsh : shp 64 k.d = true := shp_ty hn' (by omega)
  have hf : W_format_type 60 0 [k.d] J = .ok (.str k.tx) J := format_ok 60 k (by omega) (by omega)
  have hb : F_base_of [k.d] J = .ok (.str (nm.take 30)) J := by rw [base_ok (by omega), hs]
  have hh : F_has_list [k.d] J = .ok (.bl (decide (0 < j))) J := by rw [has_list_ok (by omega), hl]
  have hsl : slD (.str nm) none (some 30) J = .ok (.str (nm.take 30)) J := by rw [o_sls (by omega), show (30 : Int) = ((30 : Nat) : Int) from rfl, cut_to]
  have hgt : cmpI (fun i j => decide (j < i)) (nI j) (.int 0) J = .ok (.bl (decide (0 < j))) J := o_gtk (k := 0)
  have hi : isiD "bool" (.bl (decide (0 < j))) J = .ok (.bl true) J := rfl
  constructor
  · unfold sb_law_8 env
    simp -implicitDefEqProofs [hp, o_nerefl hsh, hf, hb, hsl]
  · unfold sb_law_9 env
    simp -implicitDefEqProofs [hh, hgt, hi]
theorem told_parsed (ns : List Int) {nm : List Nat} {k : Ty} {t : List Nat} {j : Nat} (ht : t.length < 60) (hT : TB J) {x6 x7 x8 x9 x10 x11 x12 : Option D} :
    sb_law_11 (env ns nm k t j x6 x7 x8 x9 x10 x11 x12) J = .nx (env ns nm k t j x6 x7 x8 x9 x10 x11 x12) J := by
  have h1 := told_ok ht hT
  have h2 : W_l_parsed 60 0 [.str t, .int 0] J = .ok (toN (pt 60 t 5)) J := l_parsed_ok 60 t 5 0 J ht (by omega) rfl
  have hsh : shp 64 (toN (pt 60 t 5)) = true := toN_shp
  unfold sb_law_11 env
  simp -implicitDefEqProofs [h1, h2, o_nerefl hsh]
end
theorem law_true : ∀ ns : List Int, ns.length ≤ 63 → ∃ I', F_law [.scr ns] [.tab "" "is_name", .tab "" "is_text"] = .ok (.bl true) I' := by
  intro ns _
  have j0 : Jok [] (JJ [] 0 0) := ⟨0, 0, by omega, rfl⟩
  obtain ⟨c, r, J1, j1, hc, hr, hlr, e2⟩ := name_ok ns j0
  obtain ⟨hn, hl30⟩ := take_name hc hr
  generalize hnm : c :: r = nm at e2 hn hl30
  have hz : nm.length ≤ 32 := by rw [← hnm, List.length_cons]; omega
  have hsl : ∀ J, slD (.str nm) none (some 30) J = .ok (.str (nm.take 30)) J := fun J => by rw [o_sls (by omega), show (30 : Int) = ((30 : Nat) : Int) from rfl, cut_to]
  obtain ⟨d6, J2, j2, l2, e6⟩ := draw ns j1 (s := 6) (by decide)
  have k0 : Kd (.nm (nm.take 30)) (nm.take 30) 0 := ⟨trivial, rfl, rfl, by simp [Ty.dp], by simp [Ty.tx], rfl⟩
  obtain ⟨k1, J3, y6, j3, kd1, el1⟩ := loop1 ns (nm0 := nm) hl30 (L0 := MP.upTo 0 d6) (x7 := none) (x8 := none) (x9 := none) (x10 := none) (x11 := none) (x12 := none) (MP.upTo 0 d6) (.nm (nm.take 30)) 0 J2 none k0 (by rw [upTo_len]; omega) j2
  rw [upTo_len, Nat.sub_zero, Nat.zero_add] at kd1 el1
  obtain ⟨k2, J4, j4, w2, s2, ls2, dp2, tx2, e7⟩ := must_ok ns (nm0 := nm) kd1 ⟨hl30, by omega⟩ j3 (x6 := y6) (x7 := none) (x8 := none) (x9 := none) (x10 := none) (x11 := none) (x12 := none)
  obtain ⟨e8, e9⟩ := checks_ok ns w2 s2 hn ls2 (by omega) dp2 tx2 (by omega) j4.tb (x6 := y6) (x7 := none) (x8 := none) (x9 := none) (x10 := none) (x11 := none) (x12 := none)
  obtain ⟨d10, J5, j5, l5, e10⟩ := draw ns j4 (s := 3) (by decide)
  obtain ⟨t, J6, z6, z7, z8, j6, lt, el2⟩ := loop2 ns (nm0 := nm) (k := k2) (l := d6) (L0 := MP.upTo 0 d10) (x9 := none) (x10 := none) (x11 := none) (x12 := none) (MP.upTo 0 d10) k2.tx J5 y6 none none (by rw [upTo_len]; omega) j5
  rw [upTo_len, Nat.sub_zero] at lt
  have lt' : t.length ≤ 50 := by omega
  have e11 := told_parsed ns (nm := nm) (k := k2) (t := t) (j := d6) (by omega) j6.tb (x6 := z6) (x7 := z7) (x8 := z8) (x9 := none) (x10 := none) (x11 := none) (x12 := none)
  obtain ⟨z9, el3⟩ := loop3 ns (nm0 := nm) (k := k2) (l := d6) (t := t) (L0 := [t, nm, nm ++ [95], t_meta, []].map D.str) (x6 := z6) (x7 := z7) (x8 := z8) (x10 := none) (x11 := none) (x12 := none) j6 [t, nm, nm ++ [95], t_meta, []] none (fun s hs => by
    simp only [List.mem_cons, List.not_mem_nil, or_false] at hs
    rcases hs with rfl | rfl | rfl | rfl | rfl
    · omega
    · omega
    · rw [List.length_append, List.length_cons, List.length_nil]; omega
    · decide
    · decide)
  have j7 : Jok RE (J6 ++ [.dct []]) := j6.app _
  have hJ6 : J6.length = 3 := j6.len
  obtain ⟨J8, w11, w12, j8, el4⟩ := loop4 ns (nm0 := nm) (k := k2) (l := d6) (t := t) (by omega) (L0 := [t_Int, t_Text, t_Truth].map D.str) (x6 := z6) (x7 := z7) (x8 := z8) (x9 := z9) [t_Int, t_Text, t_Truth] (J6 ++ [.dct []]) none none j7 (fun sc hs => by simpa using hs)
  have st1 : sb_law_1 [some (.scr ns), none, none, none, none, none, none, none, none, none, none, none, none] [.tab "" "is_name", .tab "" "is_text"] = .nx [some (.scr ns), some (.loc 2), none, none, none, none, none, none, none, none, none, none, none] (JJ [] 0 0) := by
    unfold sb_law_1
    simp -implicitDefEqProofs [JJ, nI, cI]
  have st2 : sb_law_2 [some (.scr ns), some (.loc 2), none, none, none, none, none, none, none, none, none, none, none] (JJ [] 0 0) = .nx [some (.scr ns), some (.loc 2), some (.str nm), none, none, none, none, none, none, none, none, none, none] J1 := by
    unfold sb_law_2
    simp -implicitDefEqProofs [e2]
  have st3 : sb_law_3 [some (.scr ns), some (.loc 2), some (.str nm), none, none, none, none, none, none, none, none, none, none] J1 = .nx [some (.scr ns), some (.loc 2), some (.str nm), some (Ty.nm (nm.take 30)).d, none, none, none, none, none, none, none, none, none] J1 := by
    unfold sb_law_3
    simp -implicitDefEqProofs [hsl, Ty.d]
  have st4 : sb_law_4 [some (.scr ns), some (.loc 2), some (.str nm), some (Ty.nm (nm.take 30)).d, none, none, none, none, none, none, none, none, none] J1 = .nx [some (.scr ns), some (.loc 2), some (.str nm), some (Ty.nm (nm.take 30)).d, some (.str (nm.take 30)), none, none, none, none, none, none, none, none] J1 := by
    unfold sb_law_4
    simp -implicitDefEqProofs [hsl]
  have st5 : sb_law_5 [some (.scr ns), some (.loc 2), some (.str nm), some (Ty.nm (nm.take 30)).d, some (.str (nm.take 30)), none, none, none, none, none, none, none, none] J1 = .nx (env ns nm (.nm (nm.take 30)) (Ty.nm (nm.take 30)).tx 0 none none none none none none none) J1 := rfl
  have st6 : sb_law_6 (env ns nm (.nm (nm.take 30)) (Ty.nm (nm.take 30)).tx 0 none none none none none none none) J1 = .nx (env ns nm k1 k1.tx d6 y6 none none none none none none) J3 := by
    have hd : d6 ≤ 16777216 := by omega
    rw [← el1]
    unfold sb_law_6
    show ((rng1I (callE 3 F_l_draw [(getV 1), (getV 0), (cV (.int 6))]) (env ns nm (.nm (nm.take 30)) (Ty.nm (nm.take 30)).tx 0 none none none none none none none) J1).bindS fun ip I1 => forL ip (nameT 6) lb_law_1 ip.items (env ns nm (.nm (nm.take 30)) (Ty.nm (nm.take 30)).tx 0 none none none none none none none) I1) = _
    have e : rng1I (callE 3 F_l_draw [(getV 1), (getV 0), (cV (.int 6))]) (env ns nm (.nm (nm.take 30)) (Ty.nm (nm.take 30)).tx 0 none none none none none none none) J1 = .ok ⟨MP.upTo 0 d6, none⟩ J2 := by
      unfold env
      simp -implicitDefEqProofs [e6, hd]
    rw [e, bindS_ok]
  have st10 : sb_law_10 (env ns nm k2 k2.tx d6 y6 none none none none none none) J4 = .nx (env ns nm k2 t d6 z6 z7 z8 none none none none) J6 := by
    have hd : d10 ≤ 16777216 := by omega
    rw [← el2]
    unfold sb_law_10
    show ((rng1I (callE 3 F_l_draw [(getV 1), (getV 0), (cV (.int 3))]) (env ns nm k2 k2.tx d6 y6 none none none none none none) J4).bindS fun ip I1 => forL ip (nameT 6) lb_law_2 ip.items (env ns nm k2 k2.tx d6 y6 none none none none none none) I1) = _
    have e : rng1I (callE 3 F_l_draw [(getV 1), (getV 0), (cV (.int 3))]) (env ns nm k2 k2.tx d6 y6 none none none none none none) J4 = .ok ⟨MP.upTo 0 d10, none⟩ J5 := by
      unfold env
      simp -implicitDefEqProofs [e10, hd]
    rw [e, bindS_ok]
  have st12 : sb_law_12 (env ns nm k2 t d6 z6 z7 z8 none none none none) J6 = .nx (env ns nm k2 t d6 z6 z7 z8 z9 none none none) J6 := by
    have ha : addD (.str nm) (.str [95]) J6 = .ok (.str (nm ++ [95])) J6 := o_adds (by simp; omega)
    rw [← el3]
    unfold sb_law_12
    rw [e_for]
    have e : seqI (lstE [(getV 4), (getV 2), (bin2 addD (getV 2) (cV (.str [95]))), (cV (.str t_meta)), (cV (.str []))]) (env ns nm k2 t d6 z6 z7 z8 none none none none) J6 = .ok ⟨[t, nm, nm ++ [95], t_meta, []].map D.str, none⟩ J6 := by
      unfold env
      simp -implicitDefEqProofs [-o_adds, ha]
    rw [e, bindS_ok]
  have st13 : sb_law_13 (env ns nm k2 t d6 z6 z7 z8 z9 none none none) J6 = .nx (env ns nm k2 t d6 z6 z7 z8 z9 (some (.lst (edges 3))) none none) (J6 ++ [.dct []]) := by
    have hd : ∀ ρ, dict0E ρ J6 = .ok (.loc 3) (J6 ++ [.dct []]) := fun ρ => by unfold dict0E; rw [hJ6]
    unfold sb_law_13 env
    simp -implicitDefEqProofs [hd, edges]
  have st14 : sb_law_14 (env ns nm k2 t d6 z6 z7 z8 z9 (some (.lst (edges 3))) none none) (J6 ++ [.dct []]) = .nx (env ns nm k2 t d6 z6 z7 z8 z9 (some (.lst (edges 3))) w11 w12) J8 := by
    rw [← el4]
    unfold sb_law_14
    rw [e_for]
    have e : seqI (lstE [(cV (.str t_Int)), (cV (.str t_Text)), (cV (.str t_Truth))]) (env ns nm k2 t d6 z6 z7 z8 z9 (some (.lst (edges 3))) none none) (J6 ++ [.dct []]) = .ok ⟨[t_Int, t_Text, t_Truth].map D.str, none⟩ (J6 ++ [.dct []]) := by
      simp -implicitDefEqProofs
    rw [e, bindS_ok]
  have hlaw : b_law [some (.scr ns), none, none, none, none, none, none, none, none, none, none, none, none] [.tab "" "is_name", .tab "" "is_text"] = .ret (.bl true) J8 := by
    unfold b_law
    rw [e_seq, st1, then_nx, e_seq, st2, then_nx, e_seq, st3, then_nx, e_seq, st4, then_nx, e_seq, st5, then_nx, e_seq, st6, then_nx, e_seq, e7, then_nx, e_seq, e8, then_nx, e_seq, e9, then_nx, e_seq, st10, then_nx, e_seq, e11, then_nx, e_seq, st12, then_nx, e_seq, st13, then_nx, e_seq, st14, then_nx]
    rfl
  have fin_ : F_law [.scr ns] [.tab "" "is_name", .tab "" "is_text"] = .ok (.bl true) (trim [.tab "" "is_name", .tab "" "is_text"] (.bl true) J8) := by
    unfold F_law
    rw [run_def]
    show endD _ (b_law [some (.scr ns), none, none, none, none, none, none, none, none, none, none, none, none] _) = _
    rw [hlaw, end_ret, MP.fin_bl]
  exact ⟨_, fin_⟩
end K01
open PySem PySem.W PyProof.Rows
set_option maxRecDepth 100000 in
set_option maxHeartbeats 0 in
theorem PySem.Challenge.cw_seamgraph_k01_types_and_names_holds : PySem.Challenge.rw_seamgraph_k01_types_and_names.Holds := by
  w_on; o_law; k_head; (case hw => w_witness2)
  k_fill
  refine K01.walk (l := PySem.Challenge.rw_seamgraph_k01_types_and_names) rfl rfl (by first | decide +kernel | kernel_rfl) (fun w h Y => PySem.W.kIn_of Y) K01.law_true ?F
  case F =>
    intro w mg fa h KX G hmg
    refine' K01.all_mk KX G hmg ?a0 ?l0 ?c0 ?k0 ?a1 ?l1 ?c1 ?k1 ?a2 ?l2 ?c2 ?k2 ?a3 ?l3 ?c3 ?k3 ?a4 ?l4 ?c4 ?k4 ?a5 ?l5 ?c5 ?k5 ?a6 ?l6 ?c6 ?k6 ?a7 ?l7 ?c7 ?k7 ?a8 ?l8 ?c8 ?k8 ?a9 ?l9 ?c9 ?k9 ?a10 ?l10 ?c10 ?k10 ?a11 ?l11 ?c11 ?k11 ?a12 ?l12 ?c12 ?k12 ?a13 ?l13 ?c13 ?k13 ?a14 ?l14 ?c14 ?k14 ?a15 ?l15 ?c15 ?k15 ?a16 ?l16 ?c16 ?k16 ?a17 ?l17 ?c17 ?k17 ?a18 ?l18 ?c18 ?k18 ?v0 ?v1 ?v2 ?v3 ?v4 ?v5 ?z0 ?z1 ?z2 ?z3 ?z4 ?z5 ?z6 ?z7 ?z8 ?xS ?owa0 ?owx0 ?owk0 ?owb0 ?owt0 ?owh0 ?owga0 ?owgg0 ?owcl0 ?owsp0 ?owtk0 ?owmo0 ?owss0 ?owki0 ?owkv0 ?ta0 ?tb0 ?td0 ?te0 ?ta1 ?tb1 ?td1 ?te1 ?tnd
    (case a0 => k_is)
    (case l0 => k_is)
    (case c0 => k_is)
    (case k0 => k_is)
    (case a1 => k_is)
    (case l1 => k_is)
    (case c1 => k_is)
    (case k1 => k_is)
    (case a2 => k_is)
    (case l2 => k_is)
    (case c2 => k_is)
    (case k2 => k_is)
    (case a3 => k_is)
    (case l3 => k_is)
    (case c3 => k_is)
    (case k3 => k_is)
    (case a4 => k_is)
    (case l4 => k_is)
    (case c4 => k_is)
    (case k4 => k_is)
    (case a5 => k_is)
    (case l5 => k_is)
    (case c5 => k_is)
    (case k5 => k_is)
    (case a6 => k_is)
    (case l6 => k_is)
    (case c6 => k_is)
    (case k6 => k_is)
    (case a7 => k_is)
    (case l7 => k_is)
    (case c7 => k_is)
    (case k7 => k_is)
    (case a8 => k_is)
    (case l8 => k_is)
    (case c8 => k_is)
    (case k8 => k_is)
    (case a9 => k_is)
    (case l9 => k_is)
    (case c9 => k_is)
    (case k9 => k_is)
    (case a10 => k_is)
    (case l10 => k_is)
    (case c10 => k_is)
    (case k10 => k_is)
    (case a11 => k_is)
    (case l11 => k_is)
    (case c11 => k_is)
    (case k11 => k_is)
    (case a12 => k_is)
    (case l12 => k_is)
    (case c12 => k_is)
    (case k12 => k_is)
    (case a13 => k_is)
    (case l13 => k_is)
    (case c13 => k_is)
    (case k13 => k_is)
    (case a14 => k_is)
    (case l14 => k_is)
    (case c14 => k_is)
    (case k14 => k_is)
    (case a15 => k_is)
    (case l15 => k_is)
    (case c15 => k_is)
    (case k15 => k_is)
    (case a16 => k_is)
    (case l16 => k_is)
    (case c16 => k_is)
    (case k16 => k_is)
    (case a17 => k_is)
    (case l17 => k_is)
    (case c17 => k_is)
    (case k17 => k_is)
    (case a18 => k_is)
    (case l18 => k_is)
    (case c18 => k_is)
    (case k18 => k_is)
    (case v0 => k_is)
    (case v1 => k_is)
    (case v2 => k_is)
    (case v3 => k_is)
    (case v4 => k_is)
    (case v5 => k_is)
    (case z0 => k_is)
    (case z1 => k_is)
    (case z2 => k_is)
    (case z3 => k_is)
    (case z4 => k_is)
    (case z5 => k_is)
    (case z6 => k_is)
    (case z7 => k_is)
    (case z8 => k_is)
    (case xS => k_is)
    (case owa0 => k_is)
    (case owx0 => k_exc)
    (case owk0 => k_is)
    (case owb0 => k_is)
    (case owt0 => k_is)
    (case owh0 => k_is)
    (case owga0 => k_is)
    (case owgg0 => k_is)
    (case owcl0 => k_is)
    (case owsp0 => k_is)
    (case owtk0 => k_is)
    (case owmo0 => k_is)
    (case owss0 => first | rfl | k_is)
    (case owki0 => kit_is)
    (case owkv0 => kit_is)
    (case ta0 => rfl)
    (case tb0 => k_is)
    (case td0 => rfl)
    (case te0 => first | k_is | kernel_rfl | rfl)
    (case ta1 => rfl)
    (case tb1 => k_is)
    (case td1 => rfl)
    (case te1 => first | k_is | kernel_rfl | rfl)
    (case tnd => first | decide | decide +kernel)
