import PyProof.Rows.All
import Wide.All
import OpenK.AllK
import Wide.FinOn
import HandS.ForMost
import HandS.ForExc
import HandS.CallSlots
import HandS.ExcInit
import HandS.Evl
import HandS.IsInst
import HandS.Wide
import HandS.TupAny
import HandS.Flow
import HandS.TryMany
import HandS.Star
import HandS.ExcField
import HandS.ClsMeth
import HandS.Property
import HandS.Defaults
import HandS.HeadHook1
import HandS.HeadHook2
import HandS.HeadHook3
import HandS.HeadHook4
import HandS.HeadEnd
import HandS.Head0
import HandS.Head1
import HandS.Head2
import KE.KOpsOwn
import KE.KCallOwn
import OpenK.KOps
import OpenK.KMeth
import HandS.SlotsOwn
import HandS.DictComp
import HandS.Style
import HandS.HeadNt
import HandS.JoinGen
import HandS.MakeKw
import HandS.MakeKwOnly
import HandS.NoneIn
import HandS.DictTup
import HandS.Iter
import HandS.TupLen
import HandS.Deep
import KE.SortData
import PyProof.DictMoreH
import HandS.SortKw
import HandS.Text
import HandS.Steps
import HandS.More
import HandS.DeepEq
import HandS.DictEq
import PyProof.DictFindH
import HandS.FStr
import HandS.TupLe
import HandS.CallLocal
import PySem.Challenge.RW_latertasks_k34_runs_made
import HandS.ReplaceLit
import HandS.ReplaceList
import KE.KDictList
import HandS.Zip
import HandS.ListItems
import HandS.WordsDict
import HandS.RaiseMore
import PyProof.InstStoreFacts
import PyProof.ExcBaseAll.LookupError
import PyProof.ExcBaseAll.RuntimeError
import KE.KExcInit
import KE.KEqNest
import PyProof.MeetsStr3
import PyProof.ReprRoads
import PyProof.InstNe
import HandS.Rev
import PyProof.ReprBulk
import KE.DataCmp
set_option Elab.async false
set_option linter.all false
set_option maxRecDepth 100000
set_option maxHeartbeats 4000000
namespace Z
open PySem PySem.Spec PyProof.Rows L2

inductive D where
  | non | bl (b : Bool) | int (i : Int) | str (x : Str) | ref (h : Nat) | glo (a : Addr) | ty (n : String)
  | tup (ds : List D) | kt (ds : List D) | lst (ds : List D) | fz (ds : List D) | dk (kvs : List (Key × D))

inductive MO where
  | lst (ds : List D)
  | dT (kvs : List (List Key × D))
  | dK (kvs : List (Key × D))
  | ins (C : Addr) (fs : List (Str × D))
  | fT (o : HO) (kvs : List (List Key × D))
  | fK (o : HO) (kvs : List (Key × D))
  | xd (a : Addr) (fs : List (Str × D))
  | gone
abbrev Mem := List MO
abbrev Sl := List (Option D)

structure Wd where
  B : Hp
  α : List Addr
  H : Hp

mutual
def Rep (K : PySem.W.Frag) (w : Wd) : D → V → Prop
  | .non, v => v = .non
  | .bl b, v => v = .bl b
  | .int i, v => v = .int i
  | .str x, v => v = .str x
  | .ty n, v => v = .ty n
  | .glo a, v => v = .ref a
  | .ref h, v => ∃ a, w.α[h]? = some a ∧ v = .ref a
  | .tup ds, v => ∃ a vs, v = .ref a ∧ w.B a = some (.tup vs) ∧ RepL K w ds vs
  | .kt ds, v => ∃ a vs, v = .ref a ∧ SqT K w.B a vs ∧ RepL K w ds vs
  | .lst ds, v => ∃ a vs, v = .ref a ∧ w.B a = some (.lst vs) ∧ RepL K w ds vs
  | .fz ds, v => ∃ a vs, v = .ref a ∧ SqL K w.B a vs ∧ RepL K w ds vs
  | .dk kvs, v => ∃ a kv, v = .ref a ∧ w.B a = some (.dK kv) ∧ RepK K w kvs kv
def RepL (K : PySem.W.Frag) (w : Wd) : List D → List V → Prop
  | [], vs => vs = []
  | d :: ds, vs => ∃ v r, vs = v :: r ∧ Rep K w d v ∧ RepL K w ds r
def RepK (K : PySem.W.Frag) (w : Wd) : List (Key × D) → List (Key × V) → Prop
  | [], vs => vs = []
  | (k, d) :: ds, vs => ∃ v r, vs = (k, v) :: r ∧ Rep K w d v ∧ RepK K w ds r
end


structure Ext (w w' : Wd) : Prop where
  B : Same w.B w'.B
  α : ∃ β, w'.α = w.α ++ β
  fr : ∀ a o, w.H a = some o → a ∉ w.α → w'.H a = some o
  nb : ∀ a o, w'.B a = some o → w.B a = some o ∨ (w.H a = none ∨ ∃ vs, w.H a = some (.tup vs)) ∨ a ∈ w.α
  na : ∀ a, a ∈ w'.α → a ∈ w.α ∨ w.H a = none
  st : ∀ a, w'.H a = none → w.H a = none

theorem Ext.refl (w : Wd) : Ext w w := ⟨Same.refl _, ⟨[], (List.append_nil _).symm⟩, fun _ _ h _ => h, fun _ _ h => .inl h, fun _ h => .inl h, fun _ h => h⟩
theorem Ext.trans {w w1 w2 : Wd} (a : Ext w w1) (b : Ext w1 w2) : Ext w w2 := by
  obtain ⟨β, hβ⟩ := a.α
  obtain ⟨γ, hγ⟩ := b.α
  have old : ∀ x, w1.H x = none → w.H x = none ∨ x ∈ w.α := fun x hx => by
    cases e : w.H x with
    | none => exact .inl rfl
    | some o =>
      by_cases m : x ∈ w.α
      · exact .inr m
      · rw [a.fr x o e m] at hx
        cases hx
  refine ⟨a.B.trans b.B, ⟨β ++ γ, by rw [hγ, hβ, List.append_assoc]⟩, fun x o h m => ?_, fun x o h => ?_, fun x h => ?_, fun x h => a.st x (b.st x h)⟩
  · refine b.fr x o (a.fr x o h m) fun m1 => ?_
    rcases a.na x m1 with q | q
    · exact m q
    · rw [h] at q
      cases q
  · rcases b.nb x o h with q | (q | ⟨vs, q⟩) | q
    · exact a.nb x o q
    · rcases old x q with r | r
      · exact .inr (.inl (.inl r))
      · exact .inr (.inr r)
    · by_cases m : x ∈ w.α
      · exact .inr (.inr m)
      · refine .inr (.inl ?_)
        cases e : w.H x with
        | none => exact .inl rfl
        | some u =>
          rw [a.fr x u e m] at q
          exact .inr ⟨vs, q⟩
    · rcases a.na x q with r | r
      · exact .inr (.inr r)
      · exact .inr (.inl (.inl r))
  · rcases b.na x h with q | q
    · exact a.na x q
    · rcases old x q with r | r
      · exact .inr r
      · exact .inl r

theorem rd_same {H H' : Hp} {a : Addr} {u : HO} (e : Same H H') (h : Rd H a u) : Rd H' a u := by
  rcases h with h | ⟨o, h⟩
  · exact Or.inl (e a _ h)
  · exact Or.inr ⟨o, e a _ h⟩
theorem sqt_same {K : PySem.W.Frag} {H H' : Hp} {a : Addr} {xs : List V} (e : Same H H') (h : SqT K H a xs) : SqT K H' a xs := by
  rcases h with h | h
  · exact Or.inl (rd_same e h)
  · exact Or.inr h
section
variable {K : PySem.W.Frag} {w w' : Wd}
variable (eB : Same w.B w'.B) (eα : ∃ β, w'.α = w.α ++ β)
include eB eα
mutual
theorem Rep.mono2 : ∀ (d : D) (v : V), Rep K w d v → Rep K w' d v
  | .non, _, h => h
  | .bl _, _, h => h
  | .int _, _, h => h
  | .str _, _, h => h
  | .ty _, _, h => h
  | .glo _, _, h => h
  | .ref n, _, h => by
    obtain ⟨a, ha, hv⟩ := h
    obtain ⟨β, hβ⟩ := eα
    refine ⟨a, ?_, hv⟩
    rw [hβ]
    exact (List.getElem?_append_left (List.getElem?_eq_some_iff.mp ha).1).trans ha
  | .tup ds, _, h => by
    obtain ⟨a, vs, hv, hs, hr⟩ := h
    exact ⟨a, vs, hv, eB _ _ hs, RepL.mono2 ds vs hr⟩
  | .kt ds, _, h => by
    obtain ⟨a, vs, hv, hs, hr⟩ := h
    exact ⟨a, vs, hv, sqt_same eB hs, RepL.mono2 ds vs hr⟩
  | .lst ds, _, h => by
    obtain ⟨a, vs, hv, hs, hr⟩ := h
    exact ⟨a, vs, hv, eB _ _ hs, RepL.mono2 ds vs hr⟩
  | .fz ds, _, h => by
    obtain ⟨a, vs, hv, hs, hr⟩ := h
    exact ⟨a, vs, hv, eB.seq hs, RepL.mono2 ds vs hr⟩
  | .dk kvs, _, h => by
    obtain ⟨a, vs, hv, hs, hr⟩ := h
    exact ⟨a, vs, hv, eB _ _ hs, RepK.mono2 kvs vs hr⟩
theorem RepL.mono2 : ∀ (ds : List D) (vs : List V), RepL K w ds vs → RepL K w' ds vs
  | [], _, h => h
  | d :: ds, _, h => by
    obtain ⟨v, r, hv, h1, h2⟩ := h
    exact ⟨v, r, hv, Rep.mono2 d v h1, RepL.mono2 ds r h2⟩
theorem RepK.mono2 : ∀ (ds : List (Key × D)) (vs : List (Key × V)), RepK K w ds vs → RepK K w' ds vs
  | [], _, h => h
  | (k, d) :: ds, _, h => by
    obtain ⟨v, r, hv, h1, h2⟩ := h
    exact ⟨v, r, hv, Rep.mono2 d v h1, RepK.mono2 ds r h2⟩
end
end
section
variable {K : PySem.W.Frag} {w w' : Wd}
theorem Rep.mono (e : Ext w w') (d : D) (v : V) (h : Rep K w d v) : Rep K w' d v := Rep.mono2 e.B e.α d v h
theorem RepL.mono (e : Ext w w') (ds : List D) (vs : List V) (h : RepL K w ds vs) : RepL K w' ds vs := RepL.mono2 e.B e.α ds vs h
end

def RepF (K : PySem.W.Frag) (w : Wd) {κ : Type} (ds : List (κ × D)) (vs : List (κ × V)) : Prop := ds.map (·.1) = vs.map (·.1) ∧ RepL K w (ds.map (·.2)) (vs.map (·.2))
def Own (K : PySem.W.Frag) (w : Wd) (a : Addr) : MO → Prop
  | .lst ds => w.B a = none ∧ ∃ vs, w.H a = some (.lst vs) ∧ RepL K w ds vs
  | .dT kvs => w.B a = none ∧ ∃ kv, w.H a = some (.dT kv) ∧ RepF K w kvs kv
  | .dK kvs => w.B a = none ∧ ∃ kv, w.H a = some (.dK kv) ∧ RepF K w kvs kv
  | .ins C fs => w.B a = none ∧ ∃ dx kv, w.H a = some (.ins C dx kv) ∧ RepF K w fs kv
  | .fT o kvs => w.B a = none ∧ w.H a = some o ∧ ∃ od kv, o = .frz od (.dT kv) ∧ RepF K w kvs kv
  | .fK o kvs => w.B a = none ∧ w.H a = some o ∧ ∃ od kv, o = .frz od (.dK kv) ∧ RepF K w kvs kv
  | .xd b fs => a = b ∧ ∃ kv, w.H a = some (.xd kv) ∧ RepF K w fs kv
  | .gone => True
structure GM (K : PySem.W.Frag) (w : Wd) (M : Mem) : Prop where
  sub : Same w.B w.H
  len : w.α.length = M.length
  nd : w.α.Nodup
  own : ∀ (h : Nat) a o, w.α[h]? = some a → M[h]? = some o → Own K w a o
  hd : ∀ a ∈ w.α, w.H a ≠ none
structure RepE (K : PySem.W.Frag) (w : Wd) (ρ : Sl) (σ : L2.St) : Prop where
  len : ρ.length = σ.length
  get : ∀ (i : Nat) d, ρ[i]? = some (some d) → ∃ v, σ[i]? = some (some v) ∧ Rep K w d v
theorem RepE.mono {K : PySem.W.Frag} {w w' : Wd} {ρ : Sl} {σ : L2.St} (e : Ext w w') (h : RepE K w ρ σ) : RepE K w' ρ σ := ⟨h.len, fun i d q => by
  obtain ⟨v, hv, r⟩ := h.get i d q
  exact ⟨v, hv, Rep.mono e d v r⟩⟩

abbrev XN := Value → Option (List (Str × D)) → Sl → Mem → Prop
def XdAt (K : PySem.W.Frag) (w : Wd) (d : Option Addr) : Option (List (Str × D)) → Prop
  | none => True
  | some fs => ∃ a kv, d = some a ∧ w.H a = some (.xd kv) ∧ RepF K w fs kv ∧ a ∉ w.α
def XOK (K : PySem.W.Frag) (W : WX) (w : Wd) (Ξ : XN) : Prop := ∀ cls fo σ' ρ' w' M' d, Ext w w' → (∀ a, d = some a → w.H a = none) → GM K w' M' → RepE K w' ρ' σ' → XdAt K w' d fo → Ξ cls fo ρ' M' → W cls d σ' w'.H
theorem XOK.mono {K : PySem.W.Frag} {W : WX} {w w' : Wd} {Ξ : XN} (e : Ext w w') (h : XOK K W w Ξ) : XOK K W w' Ξ := fun cls fo σ' ρ' w2 M' d a q => h cls fo σ' ρ' w2 M' d (e.trans a) fun b z => e.st b (q b z)

def EW (K : PySem.W.Frag) (W : WX) (te : TE) (ρ : Sl) (M : Mem) (Φ : D → Mem → Prop) (Ξ : XN) : Prop :=
  ∀ w σ (Q : VK), GM K w M → RepE K w ρ σ → XOK K W w Ξ → (∀ v w' d M', Ext w w' → GM K w' M' → Rep K w' d v → Φ d M' → Q v w'.H) → te σ w.H Q
def EA (K : PySem.W.Frag) (W : WX) (ta : TA) (ρ : Sl) (M : Mem) (Φ : List D → Mem → Prop) (Ξ : XN) : Prop :=
  ∀ w σ (Q : List V → Hp → Prop), GM K w M → RepE K w ρ σ → XOK K W w Ξ → (∀ vs w' ds M', Ext w w' → GM K w' M' → RepL K w' ds vs → Φ ds M' → Q vs w'.H) → ta σ w.H Q
def ET (K : PySem.W.Frag) (W : WX) (tt : TT) (ρ : Sl) (M : Mem) (Φ : Bool → Mem → Prop) (Ξ : XN) : Prop :=
  ∀ w σ (Q : Bool → Hp → Prop), GM K w M → RepE K w ρ σ → XOK K W w Ξ → (∀ b w' M', Ext w w' → GM K w' M' → Φ b M' → Q b w'.H) → tt σ w.H Q
structure Ed where
  nx : Sl → Mem → Prop
  rt : D → Mem → Prop
  bk : Sl → Mem → Prop := fun _ _ => False
  ct : Sl → Mem → Prop := fun _ _ => False
  xn : XN
structure EdOK (K : PySem.W.Frag) (W : WX) (w : Wd) (Δ : Ed) (Dn : Ends) : Prop where
  nx : ∀ ρ' M' σ' w', Ext w w' → GM K w' M' → RepE K w' ρ' σ' → Δ.nx ρ' M' → Dn.nx σ' w'.H
  rt : ∀ v w' d M', Ext w w' → GM K w' M' → Rep K w' d v → Δ.rt d M' → Dn.rt v w'.H
  bk : ∀ ρ' M' σ' w', Ext w w' → GM K w' M' → RepE K w' ρ' σ' → Δ.bk ρ' M' → Dn.bk σ' w'.H
  ct : ∀ ρ' M' σ' w', Ext w w' → GM K w' M' → RepE K w' ρ' σ' → Δ.ct ρ' M' → Dn.ct σ' w'.H
  xn : XOK K W w Δ.xn
theorem EdOK.mono {K : PySem.W.Frag} {W : WX} {w w' : Wd} {Δ : Ed} {Dn : Ends} (e : Ext w w') (h : EdOK K W w Δ Dn) : EdOK K W w' Δ Dn :=
  ⟨fun ρ' M' σ' w2 a => h.nx ρ' M' σ' w2 (e.trans a), fun v w2 d M' a => h.rt v w2 d M' (e.trans a), fun ρ' M' σ' w2 a => h.bk ρ' M' σ' w2 (e.trans a), fun ρ' M' σ' w2 a => h.ct ρ' M' σ' w2 (e.trans a), h.xn.mono e⟩
def SW (K : PySem.W.Frag) (W : WX) (ts : TS) (ρ : Sl) (M : Mem) (Δ : Ed) : Prop :=
  ∀ w σ (Dn : Ends), GM K w M → RepE K w ρ σ → EdOK K W w Δ Dn → ts Dn σ w.H

section
variable {K : PySem.W.Frag} {w w' : Wd}
theorem RepL.length : ∀ {ds : List D} {vs : List V}, RepL K w ds vs → ds.length = vs.length
  | [], _, h => by rw [show _ = [] from h]; rfl
  | d :: ds, _, h => by
    obtain ⟨v, r, rfl, _, h2⟩ := h
    simp [RepL.length h2]
theorem RepL.get : ∀ {ds : List D} {vs : List V} {i : Nat} {d : D}, RepL K w ds vs → ds[i]? = some d → ∃ v, vs[i]? = some v ∧ Rep K w d v
  | d :: ds, _, 0, _, h, e => by
    obtain ⟨v, r, rfl, h1, _⟩ := h
    simp at e
    subst e
    exact ⟨v, rfl, h1⟩
  | d :: ds, _, i + 1, _, h, e => by
    obtain ⟨v, r, rfl, _, h2⟩ := h
    obtain ⟨u, hu, ru⟩ := RepL.get (i := i) h2 (by simpa using e)
    exact ⟨u, by simpa using hu, ru⟩
theorem RepL.append : ∀ {ds es : List D} {vs us : List V}, RepL K w ds vs → RepL K w es us → RepL K w (ds ++ es) (vs ++ us)
  | [], _, _, _, h, h' => by
    rw [show _ = [] from h]
    exact h'
  | d :: ds, _, _, _, h, h' => by
    obtain ⟨v, r, rfl, h1, h2⟩ := h
    exact ⟨v, _, rfl, h1, RepL.append h2 h'⟩
theorem RepL.one {d : D} {v : V} (h : Rep K w d v) : RepL K w [d] [v] := ⟨v, [], rfl, h, rfl⟩
theorem RepL.drop : ∀ {ds : List D} {vs : List V} (n : Nat), RepL K w ds vs → RepL K w (ds.drop n) (vs.drop n)
  | _, _, 0, h => h
  | [], _, _ + 1, h => by
    rw [show _ = [] from h]
    rfl
  | d :: ds, _, n + 1, h => by
    obtain ⟨v, r, rfl, _, h2⟩ := h
    exact RepL.drop n h2
theorem RepL.take : ∀ {ds : List D} {vs : List V} (n : Nat), RepL K w ds vs → RepL K w (ds.take n) (vs.take n)
  | _, _, 0, h => rfl
  | [], _, _ + 1, h => by
    rw [show _ = [] from h]
    rfl
  | d :: ds, _, n + 1, h => by
    obtain ⟨v, r, rfl, h1, h2⟩ := h
    exact ⟨v, _, rfl, h1, RepL.take n h2⟩
theorem RepL.set : ∀ {ds : List D} {vs : List V} (n : Nat) {d : D} {v : V}, RepL K w ds vs → Rep K w d v → RepL K w (ds.set n d) (vs.set n v)
  | [], _, _, _, _, h, _ => by
    rw [show _ = [] from h]
    rfl
  | d :: ds, _, 0, _, _, h, r => by
    obtain ⟨v, q, rfl, _, h2⟩ := h
    exact ⟨_, _, rfl, r, h2⟩
  | d :: ds, _, n + 1, _, _, h, r => by
    obtain ⟨v, q, rfl, h1, h2⟩ := h
    exact ⟨_, _, rfl, h1, RepL.set n h2 r⟩
theorem RepL.reverse : ∀ {ds : List D} {vs : List V}, RepL K w ds vs → RepL K w ds.reverse vs.reverse
  | [], _, h => by
    rw [show _ = [] from h]
    rfl
  | d :: ds, _, h => by
    obtain ⟨v, q, rfl, h1, h2⟩ := h
    rw [List.reverse_cons, List.reverse_cons]
    exact RepL.append (RepL.reverse h2) (RepL.one h1)
end

def Wd.addB (w : Wd) (p : Addr) (o : HO) : Wd := ⟨upd w.B p o, w.α, upd w.H p o⟩
def Wd.addM (w : Wd) (p : Addr) (o : HO) : Wd := ⟨w.B, w.α ++ [p], upd w.H p o⟩
def Wd.put (w : Wd) (p : Addr) (o : HO) : Wd := ⟨w.B, w.α, upd w.H p o⟩
section
variable {K : PySem.W.Frag} {w : Wd} {M : Mem} {p : Addr} {o : HO}
theorem GM.free (g : GM K w M) (hp : w.H p = none) : w.B p = none ∧ p ∉ w.α := by
  refine ⟨?_, fun h => g.hd p h hp⟩
  cases e : w.B p with
  | none => rfl
  | some u =>
    rw [g.sub p u e] at hp
    cases hp
theorem upd_st {H : Hp} {p a : Addr} {o : HO} (h : upd H p o a = none) : H a = none := by
  by_cases e : a = p
  · subst e
    rw [upd_same] at h
    cases h
  · rw [upd_ne e] at h
    exact h
theorem ext_addB (g : GM K w M) (hp : w.H p = none) : Ext w (w.addB p o) := by
  obtain ⟨hb, ha⟩ := g.free hp
  refine ⟨fun b u h => ?_, ⟨[], (List.append_nil _).symm⟩, fun a u h _ => ?_, fun a u h => ?_, fun a h => .inl h, fun a h => upd_st h⟩
  · show upd w.B p o b = some u
    rw [upd_ne (ne_of_none h hb)]
    exact h
  · show upd w.H p o a = some u
    rw [upd_ne (ne_of_none h hp)]
    exact h
  · have h' : upd w.B p o a = some u := h
    by_cases e : a = p
    · rw [e]
      exact .inr (.inl (.inl hp))
    · rw [upd_ne e] at h'
      exact .inl h'
theorem Own.stay {w' : Wd} (e : Ext w w') {a : Addr} {m : MO} (hb : w'.B a = w.B a) (hh : w'.H a = w.H a) (h : Own K w a m) : Own K w' a m := by
  cases m with
  | lst ds =>
    obtain ⟨h1, vs, h2, h3⟩ := h
    exact ⟨hb.trans h1, vs, hh.trans h2, RepL.mono e _ _ h3⟩
  | dT kvs =>
    obtain ⟨h1, vs, h2, h3, h4⟩ := h
    exact ⟨hb.trans h1, vs, hh.trans h2, h3, RepL.mono e _ _ h4⟩
  | dK kvs =>
    obtain ⟨h1, vs, h2, h3, h4⟩ := h
    exact ⟨hb.trans h1, vs, hh.trans h2, h3, RepL.mono e _ _ h4⟩
  | ins C fs =>
    obtain ⟨h1, dx, vs, h2, h3, h4⟩ := h
    exact ⟨hb.trans h1, dx, vs, hh.trans h2, h3, RepL.mono e _ _ h4⟩
  | fT o kvs =>
    obtain ⟨h1, h2, dx, vs, h3, q4, q5⟩ := h
    exact ⟨hb.trans h1, hh.trans h2, dx, vs, h3, q4, RepL.mono e _ _ q5⟩
  | fK o kvs =>
    obtain ⟨h1, h2, dx, vs, h3, q4, q5⟩ := h
    exact ⟨hb.trans h1, hh.trans h2, dx, vs, h3, q4, RepL.mono e _ _ q5⟩
  | xd b fs =>
    obtain ⟨h1, vs, h2, h3, h4⟩ := h
    exact ⟨h1, vs, hh.trans h2, h3, RepL.mono e _ _ h4⟩
  | gone => trivial
theorem GM.addB (g : GM K w M) (hp : w.H p = none) : GM K (w.addB p o) M := by
  obtain ⟨hb, ha⟩ := g.free hp
  have e := ext_addB (o := o) g hp
  refine ⟨fun b u h => ?_, g.len, g.nd, fun h a m h1 h2 => ?_, fun a m => ?_⟩
  · show upd w.H p o b = some u
    have h' : upd w.B p o b = some u := h
    by_cases e : b = p
    · subst e
      rw [upd_same] at h' ⊢
      exact h'
    · rw [upd_ne e] at h' ⊢
      exact g.sub b u h'
  · have hne : a ≠ p := fun z => ha (z ▸ List.mem_of_getElem? h1)
    exact Own.stay e (upd_ne hne) (upd_ne hne) (g.own h a m h1 h2)
  · have hne : a ≠ p := fun z => ha (z ▸ m)
    show upd w.H p o a ≠ none
    rw [upd_ne hne]
    exact g.hd a m
theorem ext_addM (g : GM K w M) (hp : w.H p = none) : Ext w (w.addM p o) := by
  obtain ⟨hb, ha⟩ := g.free hp
  refine ⟨Same.refl _, ⟨[p], rfl⟩, fun a u h _ => ?_, fun a u h => .inl h, fun a h => ?_, fun a h => upd_st h⟩
  · show upd w.H p o a = some u
    rw [upd_ne (ne_of_none h hp)]
    exact h
  · rcases List.mem_append.mp h with q | q
    · exact .inl q
    · rw [List.mem_singleton.mp q]
      exact .inr hp
theorem GM.addM {m : MO} (g : GM K w M) (hp : w.H p = none) (hm : Own K (w.addM p o) p m) : GM K (w.addM p o) (M ++ [m]) := by
  obtain ⟨hb, ha⟩ := g.free hp
  have e := ext_addM (o := o) g hp
  refine ⟨fun b u h => ?_, ?_, ?_, fun h a u h1 h2 => ?_, fun a q => ?_⟩
  · show upd w.H p o b = some u
    have hn : b ≠ p := ne_of_none h hb
    rw [upd_ne hn]
    exact g.sub b u h
  · show (w.α ++ [p]).length = (M ++ [m]).length
    rw [List.length_append, List.length_append, g.len]
    rfl
  · show (w.α ++ [p]).Nodup
    exact List.nodup_append.mpr ⟨g.nd, by simp, fun x hx y hy z => by
      rw [List.mem_singleton] at hy
      subst hy
      exact ha (z ▸ hx)⟩
  · have h1' : (w.α ++ [p])[h]? = some a := h1
    by_cases hl : h < w.α.length
    · rw [List.getElem?_append_left hl] at h1'
      rw [List.getElem?_append_left (g.len ▸ hl)] at h2
      have hne : a ≠ p := fun z => ha (z ▸ List.mem_of_getElem? h1')
      exact Own.stay e rfl (upd_ne hne) (g.own h a u h1' h2)
    · have hl2 := (List.getElem?_eq_some_iff.mp h1').1
      have hl3 : (w.α ++ [p]).length = w.α.length + 1 := by simp
      have he : h = w.α.length := by omega
      rw [he] at h1'
      rw [he, g.len] at h2
      simp at h1' h2
      subst h1' h2
      exact hm
  · show upd w.H p o a ≠ none
    rcases List.mem_append.mp q with q | q
    · have hne : a ≠ p := fun z => ha (z ▸ q)
      rw [upd_ne hne]
      exact g.hd a q
    · rw [List.mem_singleton.mp q, upd_same]
      intro z
      cases z
theorem GM.at {h : Nat} (g : GM K w M) {a : Addr} {m : MO} (h1 : w.α[h]? = some a) (h2 : M[h]? = some m) : Own K w a m := g.own h a m h1 h2
theorem ext_put (g : GM K w M) (ha : p ∈ w.α) : Ext w (w.put p o) :=
  ⟨Same.refl _, ⟨[], (List.append_nil _).symm⟩, fun a u h hn => by
    show upd w.H p o a = some u
    have hne : a ≠ p := fun z => hn (z ▸ ha)
    rw [upd_ne hne]
    exact h, fun a u h => .inl h, fun a h => .inl h, fun a h => upd_st h⟩
theorem nodup_get {α : Type} : ∀ {l : List α}, l.Nodup → ∀ {i j : Nat} {a : α}, l[i]? = some a → l[j]? = some a → i = j := fun {l} hn {i j a} h1 h2 => by
  obtain ⟨hi, e1⟩ := List.getElem?_eq_some_iff.mp h1
  obtain ⟨hj, e2⟩ := List.getElem?_eq_some_iff.mp h2
  have hp := List.pairwise_iff_getElem.mp hn
  rcases Nat.lt_trichotomy i j with q | q | q
  · exact absurd (e1.trans e2.symm) (hp i j hi hj q)
  · exact q
  · exact absurd (e2.trans e1.symm) (hp j i hj hi q)
theorem GM.put {m : MO} {h : Nat} (g : GM K w M) (h1 : w.α[h]? = some p) (hb : w.B p = none) (hm : Own K (w.put p o) p m) : GM K (w.put p o) (M.set h m) := by
  have ha : p ∈ w.α := List.mem_of_getElem? h1
  have e := ext_put (o := o) g ha
  refine ⟨fun b u q => ?_, ?_, g.nd, fun k a u q1 q2 => ?_, fun a q => ?_⟩
  · show upd w.H p o b = some u
    have hn : b ≠ p := ne_of_none q hb
    rw [upd_ne hn]
    exact g.sub b u q
  · show w.α.length = _
    rw [List.length_set]
    exact g.len
  · have q1' : w.α[k]? = some a := q1
    by_cases hk : k = h
    · subst hk
      rw [q1'] at h1
      cases h1
      have hlt : k < M.length := g.len ▸ (List.getElem?_eq_some_iff.mp q1').1
      rw [List.getElem?_set_self hlt] at q2
      cases q2
      exact hm
    · rw [List.getElem?_set_ne (Ne.symm hk)] at q2
      have hne : a ≠ p := fun z => hk (nodup_get g.nd q1' (z ▸ h1))
      exact Own.stay e rfl (upd_ne hne) (g.own k a u q1' q2)
  · show upd w.H p o a ≠ none
    by_cases hne : a = p
    · rw [hne, upd_same]
      intro z
      cases z
    · rw [upd_ne hne]
      exact g.hd a q
end
end Z
namespace Z
open PySem PySem.Spec PyProof.Rows L2
section
variable {K : PySem.W.Frag} {W : WX} {ρ : Sl} {M : Mem} {Φ : D → Mem → Prop} {Ξ : XN} {Δ : Ed} {ta tb tc te : TE} {tA tB' : TA} {tt tu : TT} {ts us : TS}

theorem ew_mono {Φ' : D → Mem → Prop} (z : EW K W te ρ M Φ Ξ) (h : ∀ d M', Φ d M' → Φ' d M') : EW K W te ρ M Φ' Ξ := fun w σ Q g e x k => z w σ Q g e x fun v w' d M' a b c q => k v w' d M' a b c (h d M' q)
theorem ew_val {v : V} {d : D} (h : ∀ w, Rep K w d v) (q : Φ d M) : EW K W (tC v) ρ M Φ Ξ := fun w σ Q g e x k => k v w d M (Ext.refl w) g (h w) q
theorem ew_var {i : Nat} {d : D} (h : ρ[i]? = some (some d)) (q : Φ d M) : EW K W (tVar i) ρ M Φ Ξ := fun w σ Q g e x k => by
  obtain ⟨v, hv, r⟩ := e.get i d h
  exact ⟨v, hv, k v w d M (Ext.refl w) g r q⟩
def OpZ (K : PySem.W.Frag) (r : R2) (x y : D) (M : Mem) (Φ : D → Mem → Prop) : Prop := ∀ w v u (Q : VK), GM K w M → Rep K w x v → Rep K w y u → (∀ v' w' d M', Ext w w' → GM K w' M' → Rep K w' d v' → Φ d M' → Q v' w'.H) → r v u w.H Q
def UnZ (K : PySem.W.Frag) (r : V → Hp → VK → Prop) (x : D) (M : Mem) (Φ : D → Mem → Prop) : Prop := ∀ w v (Q : VK), GM K w M → Rep K w x v → (∀ v' w' d M', Ext w w' → GM K w' M' → Rep K w' d v' → Φ d M' → Q v' w'.H) → r v w.H Q
def CbZ (K : PySem.W.Frag) (r : List V → Hp → VK → Prop) (xs : List D) (M : Mem) (Φ : D → Mem → Prop) : Prop := ∀ w vs (Q : VK), GM K w M → RepL K w xs vs → (∀ v' w' d M', Ext w w' → GM K w' M' → Rep K w' d v' → Φ d M' → Q v' w'.H) → r vs w.H Q
def MtZ (K : PySem.W.Frag) (r : V → List V → Hp → VK → Prop) (x : D) (xs : List D) (M : Mem) (Φ : D → Mem → Prop) : Prop := ∀ w v vs (Q : VK), GM K w M → Rep K w x v → RepL K w xs vs → (∀ v' w' d M', Ext w w' → GM K w' M' → Rep K w' d v' → Φ d M' → Q v' w'.H) → r v vs w.H Q
theorem ew_op {r : R2} (h : EW K W ta ρ M (fun x M1 => EW K W tb ρ M1 (fun y M2 => OpZ K r x y M2 Φ) Ξ) Ξ) : EW K W (tOp r ta tb) ρ M Φ Ξ := fun w σ Q g e x k =>
  h w σ _ g e x fun v w1 d M1 e1 g1 r1 q1 => q1 w1 σ _ g1 (e.mono e1) (x.mono e1) fun u w2 d2 M2 e2 g2 r2 q2 =>
    q2 w2 v u Q g2 (Rep.mono e2 _ _ r1) r2 fun v' w3 d3 M3 e3 => k v' w3 d3 M3 ((e1.trans e2).trans e3)
theorem ew_un {r : V → Hp → VK → Prop} (h : EW K W ta ρ M (fun x M1 => UnZ K r x M1 Φ) Ξ) : EW K W (tUn r ta) ρ M Φ Ξ := fun w σ Q g e x k =>
  h w σ _ g e x fun v w1 d M1 e1 g1 r1 q1 => q1 w1 v Q g1 r1 fun v' w3 d3 M3 e3 => k v' w3 d3 M3 (e1.trans e3)
theorem ew_cb {r : List V → Hp → VK → Prop} (h : EA K W tA ρ M (fun xs M1 => CbZ K r xs M1 Φ) Ξ) : EW K W (tCB r tA) ρ M Φ Ξ := fun w σ Q g e x k =>
  h w σ _ g e x fun vs w1 ds M1 e1 g1 r1 q1 => q1 w1 vs Q g1 r1 fun v' w3 d3 M3 e3 => k v' w3 d3 M3 (e1.trans e3)
def TyZ (K : PySem.W.Frag) (T : String) (x : D) (M : Mem) : Prop := ∀ w v, GM K w M → Rep K w x v → tyV K T v w.H
theorem ew_bm {T : String} {r : V → List V → Hp → VK → Prop} (h : EW K W ta ρ M (fun x M1 => TyZ K T x M1 ∧ EA K W tA ρ M1 (fun xs M2 => MtZ K r x xs M2 Φ) Ξ) Ξ) : EW K W (tBM K T r ta tA) ρ M Φ Ξ := fun w σ Q g e x k =>
  h w σ _ g e x fun v w1 d M1 e1 g1 r1 q1 => ⟨q1.1 w1 v g1 r1, q1.2 w1 σ _ g1 (e.mono e1) (x.mono e1) fun vs w2 ds M2 e2 g2 r2 q2 =>
    q2 w2 v vs Q g2 (Rep.mono e2 _ _ r1) r2 fun v' w3 d3 M3 e3 => k v' w3 d3 M3 ((e1.trans e2).trans e3)⟩
theorem ew_bm0 {T : String} {r : V → List V → Hp → VK → Prop} (h : EW K W ta ρ M (fun x M1 => TyZ K T x M1 ∧ MtZ K r x [] M1 Φ) Ξ) : EW K W (tBM0 K T r ta) ρ M Φ Ξ := fun w σ Q g e x k =>
  h w σ _ g e x fun v w1 d M1 e1 g1 r1 q1 => ⟨q1.1 w1 v g1 r1, q1.2 w1 v [] Q g1 r1 rfl fun v' w3 d3 M3 e3 => k v' w3 d3 M3 (e1.trans e3)⟩

theorem ea_nil {Φ : List D → Mem → Prop} (q : Φ [] M) : EA K W tNil ρ M Φ Ξ := fun w σ Q g e x k => k [] w [] M (Ext.refl w) g rfl q
theorem ea_cons {Φ : List D → Mem → Prop} (h : EW K W ta ρ M (fun d M1 => EA K W tA ρ M1 (fun ds M2 => Φ (d :: ds) M2) Ξ) Ξ) : EA K W (tCons ta tA) ρ M Φ Ξ := fun w σ Q g e x k =>
  h w σ _ g e x fun v w1 d M1 e1 g1 r1 q1 => q1 w1 σ _ g1 (e.mono e1) (x.mono e1) fun vs w2 ds M2 e2 g2 r2 q2 =>
    k (v :: vs) w2 (d :: ds) M2 (e1.trans e2) g2 ⟨v, vs, rfl, Rep.mono e2 _ _ r1, r2⟩ q2

theorem ew_tup (h : EA K W tA ρ M (fun ds M1 => ds.length ≤ sizeLine ∧ Φ (.tup ds) M1) Ξ) : EW K W (tTup tA) ρ M Φ Ξ := fun w σ Q g e x k =>
  h w σ _ g e x fun vs w1 ds M1 e1 g1 r1 q1 => ⟨by rw [← r1.length]; exact q1.1, fun p hp =>
    have e2 := ext_addB (o := .tup vs) g1 hp
    k (.ref p) (w1.addB p (.tup vs)) (.tup ds) M1 (e1.trans e2) (g1.addB hp) ⟨p, vs, rfl, upd_same, RepL.mono e2 _ _ r1⟩ q1.2⟩
theorem ew_lst (h : EA K W tA ρ M (fun ds M1 => ds.length ≤ sizeLine ∧ Φ (.lst ds) M1) Ξ) : EW K W (tLst tA) ρ M Φ Ξ := fun w σ Q g e x k =>
  h w σ _ g e x fun vs w1 ds M1 e1 g1 r1 q1 => ⟨by rw [← r1.length]; exact q1.1, fun p hp =>
    have e2 := ext_addB (o := .lst vs) g1 hp
    k (.ref p) (w1.addB p (.lst vs)) (.lst ds) M1 (e1.trans e2) (g1.addB hp) ⟨p, vs, rfl, upd_same, RepL.mono e2 _ _ r1⟩ q1.2⟩
def tLstM (t : TA) : TE := tLst t
theorem own_lst {w : Wd} {M : Mem} {p : Addr} {ds : List D} {vs : List V} (g : GM K w M) (hp : w.H p = none) (r : RepL K w ds vs) : Own K (w.addM p (.lst vs)) p (.lst ds) :=
  ⟨(g.free hp).1, vs, upd_same, RepL.mono (ext_addM g hp) _ _ r⟩
theorem addM_get {w : Wd} {M : Mem} {p : Addr} {o : HO} (g : GM K w M) : (w.addM p o).α[M.length]? = some p := by
  show (w.α ++ [p])[M.length]? = some p
  rw [← g.len]
  simp
theorem ew_lstM (h : EA K W tA ρ M (fun ds M1 => ds.length ≤ sizeLine ∧ Φ (.ref M1.length) (M1 ++ [.lst ds])) Ξ) : EW K W (tLstM tA) ρ M Φ Ξ := fun w σ Q g e x k =>
  h w σ _ g e x fun vs w1 ds M1 e1 g1 r1 q1 => ⟨by rw [← r1.length]; exact q1.1, fun p hp =>
    have e2 := ext_addM (o := .lst vs) g1 hp
    k (.ref p) (w1.addM p (.lst vs)) (.ref M1.length) (M1 ++ [.lst ds]) (e1.trans e2) (g1.addM hp (own_lst g1 hp r1)) ⟨p, addM_get g1, rfl⟩ q1.2⟩

theorem et_test {Φ : Bool → Mem → Prop} (h : EW K W te ρ M (fun d M1 => ∃ b, d = .bl b ∧ Φ b M1) Ξ) : ET K W (tTest te) ρ M Φ Ξ := fun w σ Q g e x k =>
  h w σ _ g e x fun v w1 d M1 e1 g1 r1 ⟨b, ed, q⟩ => ⟨b, by subst ed; exact r1, k b w1 M1 e1 g1 q⟩
theorem et_b {Φ : Bool → Mem → Prop} (h : EW K W te ρ M (fun d M1 => ∃ b, d = .bl b ∧ Φ b M1) Ξ) : ET K W (tB te) ρ M Φ Ξ := fun w σ Q g e x k =>
  h w σ _ g e x fun v w1 d M1 e1 g1 r1 ⟨b, ed, q⟩ => ⟨b, by subst ed; exact r1, k b w1 M1 e1 g1 q⟩
theorem et_not {Φ : Bool → Mem → Prop} (h : ET K W tt ρ M (fun b M1 => Φ (!b) M1) Ξ) : ET K W (tNot tt) ρ M Φ Ξ := fun w σ Q g e x k => h w σ _ g e x fun b w1 M1 e1 g1 q => k (!b) w1 M1 e1 g1 q
theorem et_and {Φ : Bool → Mem → Prop} (h : ET K W tt ρ M (fun b M1 => (b = true → ET K W tu ρ M1 Φ Ξ) ∧ (b = false → Φ false M1)) Ξ) : ET K W (tAnd tt tu) ρ M Φ Ξ := fun w σ Q g e x k => h w σ _ g e x fun b w1 M1 e1 g1 q => by
  cases b with
  | true => exact iteT (q.1 rfl w1 σ _ g1 (e.mono e1) (x.mono e1) fun b w2 M2 e2 => k b w2 M2 (e1.trans e2))
  | false => exact iteF (k false w1 M1 e1 g1 (q.2 rfl))
theorem et_or {Φ : Bool → Mem → Prop} (h : ET K W tt ρ M (fun b M1 => (b = true → Φ true M1) ∧ (b = false → ET K W tu ρ M1 Φ Ξ)) Ξ) : ET K W (tOr tt tu) ρ M Φ Ξ := fun w σ Q g e x k => h w σ _ g e x fun b w1 M1 e1 g1 q => by
  cases b with
  | true => exact iteT (k true w1 M1 e1 g1 (q.1 rfl))
  | false => exact iteF (q.2 rfl w1 σ _ g1 (e.mono e1) (x.mono e1) fun b w2 M2 e2 => k b w2 M2 (e1.trans e2))
theorem ew_if (h : ET K W tt ρ M (fun b M1 => (b = true → EW K W ta ρ M1 Φ Ξ) ∧ (b = false → EW K W tb ρ M1 Φ Ξ)) Ξ) : EW K W (tIf tt ta tb) ρ M Φ Ξ := fun w σ Q g e x k => h w σ _ g e x fun b w1 M1 e1 g1 q => by
  cases b with
  | true => exact iteT (q.1 rfl w1 σ _ g1 (e.mono e1) (x.mono e1) fun b w2 d2 M2 e2 => k b w2 d2 M2 (e1.trans e2))
  | false => exact iteF (q.2 rfl w1 σ _ g1 (e.mono e1) (x.mono e1) fun b w2 d2 M2 e2 => k b w2 d2 M2 (e1.trans e2))
def GW (K : PySem.W.Frag) (g : TG) (d : D) (ρ : Sl) (M : Mem) (Ψ : Sl → Mem → Prop) : Prop := ∀ w σ v (Q : L2.St → Hp → Prop), GM K w M → RepE K w ρ σ → Rep K w d v → (∀ ρ' M' σ' w', Ext w w' → GM K w' M' → RepE K w' ρ' σ' → Ψ ρ' M' → Q σ' w'.H) → g v σ w.H Q
def GWs (K : PySem.W.Frag) (g : TGs) (ds : List D) (ρ : Sl) (M : Mem) (Ψ : Sl → Mem → Prop) : Prop := ∀ w σ vs (Q : L2.St → Hp → Prop), GM K w M → RepE K w ρ σ → RepL K w ds vs → (∀ ρ' M' σ' w', Ext w w' → GM K w' M' → RepE K w' ρ' σ' → Ψ ρ' M' → Q σ' w'.H) → g vs σ w.H Q
theorem RepE.set {w : Wd} {σ : L2.St} {d : D} {v : V} (e : RepE K w ρ σ) (r : Rep K w d v) (i : Nat) : RepE K w (ρ.set i (some d)) (σ.set i (some v)) := by
  refine ⟨by rw [List.length_set, List.length_set]; exact e.len, fun j c h => ?_⟩
  by_cases hj : i = j
  · subst hj
    by_cases hl : i < ρ.length
    · rw [List.getElem?_set_self hl] at h
      cases h
      exact ⟨v, List.getElem?_set_self (e.len ▸ hl), r⟩
    · rw [List.getElem?_eq_none (by rw [List.length_set]; omega)] at h
      cases h
  · rw [List.getElem?_set_ne hj] at h ⊢
    exact e.get j c h
theorem gw_name {i : Nat} {d : D} {Ψ : Sl → Mem → Prop} (q : Ψ (ρ.set i (some d)) M) : GW K (gName i) d ρ M Ψ := fun w σ v Q g e r k => k _ M _ w (Ext.refl w) g (e.set r i) q
theorem gw_nil {Ψ : Sl → Mem → Prop} (q : Ψ ρ M) : GWs K gNil [] ρ M Ψ := fun w σ vs Q g e r k => ⟨r, k _ M _ w (Ext.refl w) g e q⟩
theorem gw_cons {g : TG} {gs : TGs} {d : D} {ds : List D} {Ψ : Sl → Mem → Prop} (h : GW K g d ρ M (fun ρ1 M1 => GWs K gs ds ρ1 M1 Ψ)) : GWs K (gCons g gs) (d :: ds) ρ M Ψ := fun w σ vs Q gm e r k => by
  obtain ⟨v, r', rfl, h1, h2⟩ := r
  exact ⟨v, r', rfl, h w σ v _ gm e h1 fun ρ' M' σ' w' e1 g1 r1 q => q w' σ' r' Q g1 r1 (RepL.mono e1 _ _ h2) fun ρ2 M2 σ2 w2 e2 => k ρ2 M2 σ2 w2 (e1.trans e2)⟩
theorem gw_tup {n : Nat} {gs : TGs} {ds : List D} {Ψ : Sl → Mem → Prop} (hl : ds.length = n) (h : GWs K gs ds ρ M Ψ) : GW K (gTup K n gs) (.tup ds) ρ M Ψ := fun w σ v Q g e r k => by
  obtain ⟨a, vs, rfl, hs, hr⟩ := r
  exact ⟨a, vs, rfl, .inl (.inl (g.sub _ _ hs)), by rw [← hr.length]; exact hl, h w σ vs Q g e hr k⟩
theorem sw_next (q : Δ.nx ρ M) : SW K W tNext ρ M Δ := fun w σ Dn g e ok => ok.nx ρ M σ w (Ext.refl w) g e q
theorem sw_seq (h : SW K W ts ρ M { Δ with nx := fun ρ1 M1 => SW K W us ρ1 M1 Δ }) : SW K W (tSeq ts us) ρ M Δ := fun w σ Dn g e ok =>
  h w σ { Dn with nx := us Dn } g e ⟨fun ρ' M' σ' w' e1 g1 r1 q => q w' σ' Dn g1 r1 (ok.mono e1), ok.rt, ok.bk, ok.ct, ok.xn⟩
theorem sw_if (h : ET K W tt ρ M (fun b M1 => (b = true → SW K W ts ρ M1 Δ) ∧ (b = false → SW K W us ρ M1 Δ)) Δ.xn) : SW K W (tIfS tt ts us) ρ M Δ := fun w σ Dn g e ok => h w σ _ g e ok.xn fun b w1 M1 e1 g1 q => by
  cases b with
  | true => exact iteT (q.1 rfl w1 σ Dn g1 (e.mono e1) (ok.mono e1))
  | false => exact iteF (q.2 rfl w1 σ Dn g1 (e.mono e1) (ok.mono e1))
theorem sw_ret (h : EW K W te ρ M Δ.rt Δ.xn) : SW K W (tRet te) ρ M Δ := fun w σ Dn g e ok => h w σ _ g e ok.xn fun v w1 d M1 e1 g1 r1 q => ok.rt v w1 d M1 e1 g1 r1 q
theorem sw_drop (h : EW K W te ρ M (fun _ M1 => Δ.nx ρ M1) Δ.xn) : SW K W (tDrop te) ρ M Δ := fun w σ Dn g e ok => h w σ _ g e ok.xn fun v w1 d M1 e1 g1 r1 q => ok.nx ρ M1 σ w1 e1 g1 (e.mono e1) q
theorem sw_asg {g : TG} (h : EW K W te ρ M (fun d M1 => GW K g d ρ M1 Δ.nx) Δ.xn) : SW K W (tAsg te g) ρ M Δ := fun w σ Dn gm e ok => h w σ _ gm e ok.xn fun v w1 d M1 e1 g1 r1 q =>
  q w1 σ v _ g1 (e.mono e1) r1 fun ρ' M' σ' w' e2 => ok.nx ρ' M' σ' w' (e1.trans e2)
end

abbrev XM := Value → Option (List (Str × D)) → Mem → Prop
abbrev DSp := List D → Mem → (D → Mem → Prop) → XM → Prop
def spOf (K : PySem.W.Frag) (S : DSp) : Sp := fun vs H Q E => ∃ w M ds Φ Ξ, w.H = H ∧ GM K w M ∧ RepL K w ds vs ∧ S ds M Φ Ξ ∧ (∀ v w' d M', Ext w w' → GM K w' M' → Rep K w' d v → Φ d M' → Q v w'.H) ∧
  ∀ cls fo w' M' d, Ext w w' → (∀ a, d = some a → w.H a = none) → GM K w' M' → XdAt K w' d fo → Ξ cls fo M' → E cls d w'.H
section
variable {K : PySem.W.Frag} {W : WX} {ρ : Sl} {M : Mem} {Φ : D → Mem → Prop} {Ξ : XN} {tA : TA} {S : DSp}
theorem ew_call (h : EA K W tA ρ M (fun ds M1 => S ds M1 Φ (fun c fo M' => Ξ c fo ρ M')) Ξ) : EW K W (tCallSD (spOf K S) [] (WE W) tA) ρ M Φ Ξ := fun w σ Q g e x k =>
  h w σ _ g e x fun vs w1 ds M1 e1 g1 r1 q => by
    refine ⟨w1, M1, ds, Φ, _, rfl, g1, by rw [List.append_nil]; exact r1, q, fun v w2 d M2 e2 => k v w2 d M2 (e1.trans e2), fun cls fo w2 M2 d e2 fd g2 xd q2 => ?_⟩
    exact x cls fo σ ρ w2 M2 d (e1.trans e2) (fun a z => e1.st a (fd a z)) g2 (e.mono (e1.trans e2)) xd q2
def startD (N : List Str) (ds : List D) : Sl := ds.map some ++ List.replicate (N.length - ds.length) none
theorem startD_rep {w : Wd} {N : List Str} {ds : List D} {vs : List V} (r : RepL K w ds vs) : RepE K w (startD N ds) (L2.start N vs) := by
  have hl := r.length
  refine ⟨by unfold startD L2.start; simp [hl], fun i d h => ?_⟩
  unfold startD at h
  by_cases hi : i < ds.length
  · rw [List.getElem?_append_left (by simpa using hi)] at h
    rw [List.getElem?_map] at h
    cases e : ds[i]? with
    | none =>
      rw [e] at h
      cases h
    | some c =>
      rw [e] at h
      cases h
      obtain ⟨v, hv, rv⟩ := r.get e
      refine ⟨v, ?_, rv⟩
      unfold L2.start
      rw [List.getElem?_append_left (by simp; omega), List.getElem?_map, hv]
      rfl
  · rw [List.getElem?_append_right (by simp; omega), List.getElem?_replicate] at h
    split at h <;> cases h
end
section
variable {P : Program} {w : World} {K : PySem.W.Frag} {mg : Str → Option Value} {base : Heap}
abbrev WF (E : XK) : WX := fun c d _ H => E c d H
end
end Z
namespace Z
open PySem PySem.Spec PyProof.Rows L2

def asL (M : Mem) : D → Option (List D)
  | .lst ds => some ds
  | .ref h => match M[h]? with
    | some (.lst ds) => some ds
    | _ => none
  | _ => none
def asS (M : Mem) : D → Option (List D)
  | .lst ds => some ds
  | .fz ds => some ds
  | .tup ds => some ds
  | .kt ds => some ds
  | .ref h => match M[h]? with
    | some (.lst ds) => some ds
    | _ => none
  | _ => none
def isTp : D → Bool
  | .tup _ => true
  | .kt _ => true
  | _ => false
section
variable {K : PySem.W.Frag} {w : Wd} {M : Mem}
theorem asL_rep {d : D} {v : V} {ds : List D} (g : GM K w M) (r : Rep K w d v) (e : asL M d = some ds) : ∃ a vs, v = .ref a ∧ w.H a = some (.lst vs) ∧ RepL K w ds vs := by
  cases d with
  | lst xs =>
    cases e
    obtain ⟨a, vs, hv, hs, hr⟩ := r
    exact ⟨a, vs, hv, g.sub _ _ hs, hr⟩
  | ref h =>
    obtain ⟨a, ha, hv⟩ := r
    unfold asL at e
    cases hm : M[h]? with
    | none =>
      simp only [hm] at e
      cases e
    | some o =>
      have z := g.own h a o ha hm
      simp only [hm] at e
      cases o with
      | lst xs =>
        cases e
        obtain ⟨_, vs, h1, h2⟩ := z
        exact ⟨a, vs, hv, h1, h2⟩
      | dT _ => cases e
      | dK _ => cases e
      | ins _ _ => cases e
      | fT _ _ => cases e
      | fK _ _ => cases e
      | xd _ _ => cases e
      | gone => cases e
  | _ => cases e
theorem asS_of_asL {d : D} {ds : List D} (e : asL M d = some ds) : asS M d = some ds := by
  cases d with
  | lst xs => exact e
  | ref h => exact e
  | _ => cases e
theorem asS_rep {d : D} {v : V} {ds : List D} (g : GM K w M) (r : Rep K w d v) (e : asS M d = some ds) : ∃ a vs, v = .ref a ∧ (isTp d = true ∧ SqT K w.H a vs ∨ isTp d = false ∧ SqL K w.H a vs) ∧ RepL K w ds vs := by
  cases d with
  | lst xs =>
    cases e
    obtain ⟨a, vs, hv, hs, hr⟩ := r
    exact ⟨a, vs, hv, .inr ⟨rfl, .inl (.inl (g.sub _ _ hs))⟩, hr⟩
  | fz xs =>
    cases e
    obtain ⟨a, vs, hv, hs, hr⟩ := r
    exact ⟨a, vs, hv, .inr ⟨rfl, g.sub.seq hs⟩, hr⟩
  | tup xs =>
    cases e
    obtain ⟨a, vs, hv, hs, hr⟩ := r
    exact ⟨a, vs, hv, .inl ⟨rfl, .inl (.inl (g.sub _ _ hs))⟩, hr⟩
  | kt xs =>
    cases e
    obtain ⟨a, vs, hv, hs, hr⟩ := r
    exact ⟨a, vs, hv, .inl ⟨rfl, sqt_same g.sub hs⟩, hr⟩
  | ref h =>
    obtain ⟨a, vs, h1, h2, h3⟩ := asL_rep g r (show asL M (.ref h) = some ds from e)
    exact ⟨a, vs, h1, .inr ⟨rfl, .inl (.inl h2)⟩, h3⟩
  | _ => cases e
end

def rAddZ (K : PySem.W.Frag) : R2 := fun x y H Q => rI0 (fun i j => .int (i + j)) x y H Q ∨ (∃ i j, x = .str i ∧ y = .str j ∧ i.length + j.length ≤ sizeLine ∧ Q (.str (i ++ j)) H) ∨ rCat x y H Q ∨ rCatA K x y H Q
theorem op_addZ {X : Cx} : OpR X (binaryOp .Add) (rAddZ X.K) := op_add.or (op_add_str.or (op_cat.or op_catA))
section
variable {K : PySem.W.Frag} {M : Mem} {Φ : D → Mem → Prop}
theorem oz_addI {i j : Int} (q : Φ (.int (i + j)) M) : OpZ K (rAddZ K) (.int i) (.int j) M Φ := fun w v u Q g r1 r2 k => .inl ⟨i, j, r1, r2, k _ w (.int (i + j)) M (Ext.refl w) g rfl q⟩
theorem oz_addS {i j : Str} (h : i.length + j.length ≤ sizeLine) (q : Φ (.str (i ++ j)) M) : OpZ K (rAddZ K) (.str i) (.str j) M Φ := fun w v u Q g r1 r2 k => .inr (.inl ⟨i, j, r1, r2, h, k _ w (.str (i ++ j)) M (Ext.refl w) g rfl q⟩)
theorem oz_addL {x y : D} {xs ys : List D} (hx : asL M x = some xs) (hy : asL M y = some ys) (h : xs.length + ys.length ≤ sizeLine) (q : Φ (.lst (xs ++ ys)) M) : OpZ K (rAddZ K) x y M Φ := fun w v u Q g r1 r2 k => by
  obtain ⟨a, vs, rfl, ha, ra⟩ := asL_rep g r1 hx
  obtain ⟨b, us, rfl, hb, rb⟩ := asL_rep g r2 hy
  refine .inr (.inr (.inl ⟨a, b, vs, us, rfl, rfl, ha, hb, by rw [← ra.length, ← rb.length]; exact h, fun p hp => ?_⟩))
  have e := ext_addB (o := .lst (vs ++ us)) g hp
  exact k _ (w.addB p _) (.lst (xs ++ ys)) M e (g.addB hp) ⟨p, _, rfl, upd_same, RepL.append (RepL.mono e _ _ ra) (RepL.mono e _ _ rb)⟩ q
theorem oz_addT {xs ys : List D} (h : xs.length + ys.length ≤ sizeLine) (q : Φ (.tup (xs ++ ys)) M) : OpZ K (rAddZ K) (.tup xs) (.tup ys) M Φ := fun w v u Q g r1 r2 k => by
  obtain ⟨a, vs, rfl, ha, ra⟩ := id r1
  obtain ⟨b, us, rfl, hb, rb⟩ := id r2
  refine .inr (.inr (.inr ⟨a, b, vs, us, rfl, rfl, .inl (.inl (g.sub _ _ ha)), .inl (.inl (g.sub _ _ hb)), by rw [← ra.length, ← rb.length]; exact h, fun e => ?_, fun _ e => ?_, fun _ _ p hp => ?_⟩))
  · subst e
    have hx : xs = [] := List.length_eq_zero_iff.mp ra.length
    subst hx
    exact k _ w _ M (Ext.refl w) g (show Rep K w (.tup ([] ++ ys)) _ from r2) q
  · subst e
    have hy : ys = [] := List.length_eq_zero_iff.mp rb.length
    subst hy
    rw [List.append_nil] at q
    exact k _ w _ M (Ext.refl w) g r1 q
  · have e := ext_addB (o := .tup (vs ++ us)) g hp
    exact k _ (w.addB p _) (.tup (xs ++ ys)) M e (g.addB hp) ⟨p, _, rfl, upd_same, RepL.append (RepL.mono e _ _ ra) (RepL.mono e _ _ rb)⟩ q
theorem oz_I0 {f : Int → Int → V} {d : Int → Int → D} (hd : ∀ i j w, Rep K w (d i j) (f i j)) {i j : Int} (q : Φ (d i j) M) : OpZ K (rI0 f) (.int i) (.int j) M Φ := fun w v u Q g r1 r2 k => ⟨i, j, r1, r2, k _ w _ M (Ext.refl w) g (hd i j w) q⟩
theorem oz_I {C : Int → Int → Prop} {f : Int → Int → V} {d : Int → Int → D} (hd : ∀ i j w, Rep K w (d i j) (f i j)) {i j : Int} (h : C i j) (q : Φ (d i j) M) : OpZ K (rI C f) (.int i) (.int j) M Φ := fun w v u Q g r1 r2 k => ⟨i, j, r1, r2, h, k _ w _ M (Ext.refl w) g (hd i j w) q⟩
theorem oz_sub {i j : Int} (q : Φ (.int (i - j)) M) : OpZ K (rI0 fun i j => .int (i - j)) (.int i) (.int j) M Φ := oz_I0 (d := fun i j => .int (i - j)) (fun _ _ _ => rfl) q
theorem oz_mul {i j : Int} (h : CMul i j) (q : Φ (.int (i * j)) M) : OpZ K (rI CMul fun i j => .int (i * j)) (.int i) (.int j) M Φ := oz_I (d := fun i j => .int (i * j)) (fun _ _ _ => rfl) h q
theorem oz_mod {i j : Int} (h : 0 < j) (q : Φ (.int (i % j)) M) : OpZ K (rI (fun _ j => 0 < j) fun i j => .int (i % j)) (.int i) (.int j) M Φ := oz_I (d := fun i j => .int (i % j)) (fun _ _ _ => rfl) h q
theorem oz_div {i j : Int} (h : CDivW i j) (q : Φ (.int (i / j)) M) : OpZ K (rI CDivW fun i j => .int (i / j)) (.int i) (.int j) M Φ := oz_I (d := fun i j => .int (i / j)) (fun _ _ _ => rfl) h q
theorem oz_pow {i j : Int} (h : CPow i j) (q : Φ (.int (i ^ j.toNat)) M) : OpZ K (rI CPow fun i j => .int (i ^ j.toNat)) (.int i) (.int j) M Φ := oz_I (d := fun i j => .int (i ^ j.toNat)) (fun _ _ _ => rfl) h q
theorem oz_lt {i j : Int} (q : Φ (.bl (decide (i < j))) M) : OpZ K (rI0 fun i j => .bl (decide (i < j))) (.int i) (.int j) M Φ := oz_I0 (d := fun i j => .bl (decide (i < j))) (fun _ _ _ => rfl) q
theorem oz_gt {i j : Int} (q : Φ (.bl (decide (j < i))) M) : OpZ K (rI0 fun i j => .bl (decide (j < i))) (.int i) (.int j) M Φ := oz_I0 (d := fun i j => .bl (decide (j < i))) (fun _ _ _ => rfl) q
theorem oz_ge {i j : Int} (q : Φ (.bl (decide (j ≤ i))) M) : OpZ K (rI0 fun i j => .bl (decide (j ≤ i))) (.int i) (.int j) M Φ := oz_I0 (d := fun i j => .bl (decide (j ≤ i))) (fun _ _ _ => rfl) q
theorem uz_neg {i : Int} (q : Φ (.int (-i)) M) : UnZ K (rU fun i => .int (-i)) (.int i) M Φ := fun w v Q g r k => ⟨i, r, k _ w (.int (-i)) M (Ext.refl w) g rfl q⟩

theorem oz_ix {x : D} {i : Int} {ds : List D} {d : D} (hx : asS M x = some ds) (hi : atI ds i = some d) (q : Φ d M) : OpZ K (rIx K) x (.int i) M Φ := fun w v u Q g r1 r2 k => by
  obtain ⟨a, vs, rfl, ha, ra⟩ := asS_rep g r1 hx
  have hv : ∃ y, atI vs i = some y ∧ Rep K w d y := by
    unfold atI at hi ⊢
    rw [← ra.length]
    cases hj : ixN ds.length i with
    | none =>
      rw [hj] at hi
      cases hi
    | some j =>
      rw [hj] at hi
      exact ra.get hi
  obtain ⟨y, hy, ry⟩ := hv
  rcases ha with ⟨_, ha⟩ | ⟨_, ha⟩
  · exact .inr (.inl ⟨a, vs, i, y, rfl, r2, ha, hy, k _ w d M (Ext.refl w) g ry q⟩)
  · exact .inl ⟨a, vs, i, y, rfl, r2, ha, hy, k _ w d M (Ext.refl w) g ry q⟩
theorem oz_ixStr {z : Str} {i : Int} {c : Nat} (hz : z.length ≤ sizeLine) (hc : atI z.cps.toList i = some c) (q : Φ (.str ⟨#[c]⟩) M) : OpZ K (rIx K) (.str z) (.int i) M Φ := fun w v u Q g r1 r2 k =>
  .inr (.inr ⟨z, i, c, r1, r2, hz, hc, k _ w (.str ⟨#[c]⟩) M (Ext.refl w) g rfl q⟩)
theorem atI_nat {α : Type} {xs : List α} {n : Nat} {x : α} (h : xs[n]? = some x) : atI xs (n : Int) = some x := by
  have hl := (List.getElem?_eq_some_iff.mp h).1
  unfold atI ixN
  rw [if_pos (by omega), if_pos (by omega)]
  simpa using h

theorem gw_setL {W : WX} {ρ : Sl} {d : D} {to ti : TE} {Ψ : Sl → Mem → Prop} {Ξ : XN}
    (hX : ∀ w, XOK K W w Ξ) (h : EW K W to ρ M (fun o M1 => EW K W ti ρ M1 (fun i M2 => ∃ n k ds j, o = .ref n ∧ i = .int k ∧ M2[n]? = some (.lst ds) ∧ ixN ds.length k = some j ∧ Ψ ρ (M2.set n (.lst (ds.set j d)))) Ξ) Ξ) : GW K (gSub to ti rSetL) d ρ M Ψ := fun w σ v Q g e r k =>
  h w σ _ g e (hX w) fun vo w1 o M1 e1 g1 r1 q1 => q1 w1 σ _ g1 (e.mono e1) (hX w1) fun vi w2 i M2 e2 g2 r2 q2 => by
    obtain ⟨n, kk, ds, j, rfl, rfl, hm, hj, q⟩ := q2
    obtain ⟨a, ha, rfl⟩ := Rep.mono e2 _ _ r1
    obtain ⟨hb, vs, hH, rv⟩ := g2.own n a _ ha hm
    have r' : Rep K w2 d v := Rep.mono (e1.trans e2) _ _ r
    refine ⟨a, vs, kk, j, rfl, r2, hH, by rw [← rv.length]; exact hj, ?_⟩
    have e3 := ext_put (o := .lst (vs.set j v)) g2 (List.mem_of_getElem? ha)
    exact k ρ _ σ (w2.put a _) ((e1.trans e2).trans e3) (g2.put (m := .lst (ds.set j d)) ha hb ⟨hb, _, upd_same, RepL.set j (RepL.mono e3 _ _ rv) (Rep.mono e3 _ _ r')⟩) (e.mono ((e1.trans e2).trans e3)) q
theorem mz_append {h : Nat} {ds : List D} {y : D} (hm : M[h]? = some (.lst ds)) (hl : ds.length < sizeLine) (q : Φ .non (M.set h (.lst (ds ++ [y])))) : MtZ K rAppend (.ref h) [y] M Φ := fun w v vs Q g r1 r2 k => by
  obtain ⟨a, ha, rfl⟩ := r1
  obtain ⟨u, r, rfl, ru, rr⟩ := r2
  cases (show r = [] from rr)
  obtain ⟨hb, us, hH, rv⟩ := g.own h a _ ha hm
  refine ⟨a, us, u, rfl, rfl, hH, by rw [← rv.length]; exact hl, ?_⟩
  have e3 := ext_put (o := .lst (us ++ [u])) g (List.mem_of_getElem? ha)
  exact k .non (w.put a _) .non _ e3 (g.put (m := .lst (ds ++ [y])) ha hb ⟨hb, _, upd_same, RepL.append (RepL.mono e3 _ _ rv) (RepL.one (Rep.mono e3 _ _ ru))⟩) rfl q
theorem tz_list {d : D} {ds : List D} (h : asL M d = some ds) : TyZ K "list" d M := fun w v g r => by
  obtain ⟨a, vs, rfl, ha, _⟩ := asL_rep g r h
  exact .inl ⟨rfl, _, SqL.of ha⟩

def EO (K : PySem.W.Frag) (W : WX) (to : TO) (ρ : Sl) (M : Mem) (Φ : Option Int → Mem → Prop) (Ξ : XN) : Prop :=
  ∀ w σ (Q : Option Int → Hp → Prop), GM K w M → RepE K w ρ σ → XOK K W w Ξ → (∀ o w' M', Ext w w' → GM K w' M' → Φ o M' → Q o w'.H) → to σ w.H Q
theorem eo_none {W : WX} {ρ : Sl} {Φ : Option Int → Mem → Prop} {Ξ : XN} (q : Φ none M) : EO K W tNoPart ρ M Φ Ξ := fun w σ Q g e x k => k none w M (Ext.refl w) g q
theorem eo_some {W : WX} {ρ : Sl} {te : TE} {Φ : Option Int → Mem → Prop} {Ξ : XN} (h : EW K W te ρ M (fun d M1 => ∃ i, d = .int i ∧ Φ (some i) M1) Ξ) : EO K W (tPart te) ρ M Φ Ξ := fun w σ Q g e x k =>
  h w σ _ g e x fun v w1 d M1 e1 g1 r1 ⟨i, ed, q⟩ => ⟨i, by subst ed; exact r1, k _ w1 M1 e1 g1 q⟩
def cutD (xs : List D) (lo hi : Option Int) : List D := (xs.drop (HT.sIx xs.length 0 lo)).take (HT.sIx xs.length xs.length hi - HT.sIx xs.length 0 lo)
def SlZ (K : PySem.W.Frag) (r : V → Option Int → Option Int → Hp → VK → Prop) (x : D) (lo hi : Option Int) (M : Mem) (Φ : D → Mem → Prop) : Prop := ∀ w v (Q : VK), GM K w M → Rep K w x v → (∀ v' w' d M', Ext w w' → GM K w' M' → Rep K w' d v' → Φ d M' → Q v' w'.H) → r v lo hi w.H Q
theorem ew_sl {W : WX} {ρ : Sl} {te : TE} {tl th : TO} {Ξ : XN} {r : V → Option Int → Option Int → Hp → VK → Prop}
    (h : EW K W te ρ M (fun x M1 => EO K W tl ρ M1 (fun lo M2 => EO K W th ρ M2 (fun hi M3 => SlZ K r x lo hi M3 Φ) Ξ) Ξ) Ξ) : EW K W (tSl r te tl th) ρ M Φ Ξ := fun w σ Q g e x k =>
  h w σ _ g e x fun v w1 d M1 e1 g1 r1 q1 => q1 w1 σ _ g1 (e.mono e1) (x.mono e1) fun lo w2 M2 e2 g2 q2 => q2 w2 σ _ g2 (e.mono (e1.trans e2)) (x.mono (e1.trans e2)) fun hi w3 M3 e3 g3 q3 =>
    q3 w3 v Q g3 (Rep.mono (e2.trans e3) _ _ r1) fun v' w4 d4 M4 e4 => k v' w4 d4 M4 (((e1.trans e2).trans e3).trans e4)
def rSlZ (K : PySem.W.Frag) : V → Option Int → Option Int → Hp → VK → Prop := fun x lo hi H Q => rSlL K x lo hi H Q ∨ rSlA K x lo hi H Q ∨ rSlS x lo hi H Q
theorem sl_Z {X : Cx} : SlR X (rSlZ X.K) := sl_list.or (sl_tupA.or sl_str)
theorem cut_rep {w : Wd} {ds : List D} {vs : List V} (r : RepL K w ds vs) (lo hi : Option Int) : RepL K w (cutD ds lo hi) (cutV vs lo hi) := by
  have hl := r.length
  unfold cutD cutV
  rw [hl]
  exact RepL.take _ (RepL.drop _ r)
theorem sz_lst {x : D} {ds : List D} {lo hi : Option Int} (hx : asS M x = some ds) (ht : isTp x = false) (q : Φ (.lst (cutD ds lo hi)) M) : SlZ K (rSlZ K) x lo hi M Φ := fun w v Q g r k => by
  obtain ⟨a, vs, rfl, ha, ra⟩ := asS_rep g r hx
  rcases ha with ⟨z, ha⟩ | ⟨_, ha⟩
  · rw [z] at ht
    cases ht
  · refine .inl ⟨a, vs, rfl, ha, fun p hp => ?_⟩
    have e := ext_addB (o := .lst (cutV vs lo hi)) g hp
    exact k _ (w.addB p _) (.lst (cutD ds lo hi)) M e (g.addB hp) ⟨p, _, rfl, upd_same, cut_rep (RepL.mono e _ _ ra) lo hi⟩ q
theorem sz_tup {ds : List D} {lo hi : Option Int} (q : Φ (.tup (cutD ds lo hi)) M) : SlZ K (rSlZ K) (.tup ds) lo hi M Φ := fun w v Q g r k => by
  obtain ⟨a, vs, rfl, ha, ra⟩ := id r
  refine .inr (.inl ⟨a, vs, rfl, .inl (.inl (g.sub _ _ ha)), fun h => ?_, fun _ p hp => ?_⟩)
  · have hc : cutD ds lo hi = ds := by
      unfold cutD
      rw [ra.length, h.1, h.2]
      simp [ra.length.symm]
    rw [hc] at q
    exact k _ w _ M (Ext.refl w) g r q
  · have e := ext_addB (o := .tup (cutV vs lo hi)) g hp
    exact k _ (w.addB p _) (.tup (cutD ds lo hi)) M e (g.addB hp) ⟨p, _, rfl, upd_same, cut_rep (RepL.mono e _ _ ra) lo hi⟩ q
theorem sz_str {z : Str} {lo hi : Option Int} (hz : z.length ≤ sizeLine) (q : Φ (.str (cutS z lo hi)) M) : SlZ K (rSlZ K) (.str z) lo hi M Φ := fun w v Q g r k => .inr (.inr ⟨z, r, hz, k _ w (.str (cutS z lo hi)) M (Ext.refl w) g rfl q⟩)

mutual
def pd : D → Option PyData
  | .non => some .none
  | .bl b => some (.bool b)
  | .int i => some (.int i)
  | .str s => some (.str s)
  | .tup ds => match pdL ds with
    | some xs => some (.tuple xs)
    | none => none
  | .kt ds => match pdL ds with
    | some xs => some (.tuple xs)
    | none => none
  | .lst ds => match pdL ds with
    | some xs => some (.list xs)
    | none => none
  | .fz ds => match pdL ds with
    | some xs => some (.list xs)
    | none => none
  | _ => none
def pdL : List D → Option (List PyData)
  | [] => some []
  | d :: ds => match pd d, pdL ds with
    | some a, some b => some (a :: b)
    | _, _ => none
end
def pdM (M : Mem) (d : D) : Option PyData := match asL M d with
  | some ds => match pdL ds with
    | some xs => some (.list xs)
    | none => none
  | none => pd d
section
variable {w : Wd}
mutual
theorem pd_rep (g : Same w.B w.H) : ∀ (d : D) (v : V) (a : PyData), Rep K w d v → pd d = some a → Dp K w.H v a
  | .non, _, _, r, e => by
    cases e
    cases (show _ = V.non from r)
    exact .non
  | .bl b, _, _, r, e => by
    cases e
    cases (show _ = V.bl b from r)
    exact .bl b
  | .int i, _, _, r, e => by
    cases e
    cases (show _ = V.int i from r)
    exact .int i
  | .str x, _, _, r, e => by
    cases e
    cases (show _ = V.str x from r)
    exact .str x
  | .tup ds, _, _, r, e => by
    obtain ⟨a, vs, rfl, h1, h2⟩ := r
    unfold pd at e
    split at e
    · next xs hx =>
      cases e
      exact .tup (.inl (.inl (g _ _ h1))) (pdL_rep g ds vs xs h2 hx)
    · cases e
  | .kt ds, _, _, r, e => by
    obtain ⟨a, vs, rfl, h1, h2⟩ := r
    unfold pd at e
    split at e
    · next xs hx =>
      cases e
      exact .tup (sqt_same g h1) (pdL_rep g ds vs xs h2 hx)
    · cases e
  | .lst ds, _, _, r, e => by
    obtain ⟨a, vs, rfl, h1, h2⟩ := r
    unfold pd at e
    split at e
    · next xs hx =>
      cases e
      exact .lst (.inl (.inl (g _ _ h1))) (pdL_rep g ds vs xs h2 hx)
    · cases e
  | .fz ds, _, _, r, e => by
    obtain ⟨a, vs, rfl, h1, h2⟩ := r
    unfold pd at e
    split at e
    · next xs hx =>
      cases e
      exact .lst (g.seq h1) (pdL_rep g ds vs xs h2 hx)
    · cases e
  | .ref _, _, _, _, e => by cases e
  | .glo _, _, _, _, e => by cases e
  | .ty _, _, _, _, e => by cases e
  | .dk _, _, _, _, e => by cases e
theorem pdL_rep (g : Same w.B w.H) : ∀ (ds : List D) (vs : List V) (as : List PyData), RepL K w ds vs → pdL ds = some as → DpAll K w.H vs as
  | [], _, _, r, e => by
    cases e
    cases (show _ = [] from r)
    exact .nil
  | d :: ds, _, _, r, e => by
    obtain ⟨v, us, rfl, h1, h2⟩ := r
    unfold pdL at e
    split at e
    · next a b ha hb =>
      cases e
      exact .cons (pd_rep g d v a h1 ha) (pdL_rep g ds us b h2 hb)
    · cases e
end
end
theorem pdM_rep {w : Wd} {d : D} {v : V} {a : PyData} (g : GM K w M) (r : Rep K w d v) (e : pdM M d = some a) : Dp K w.H v a := by
  unfold pdM at e
  split at e
  · next ds hd =>
    split at e
    · next xs hx =>
      cases e
      obtain ⟨b, vs, rfl, h1, h2⟩ := asL_rep g r hd
      exact .lst (.inl (.inl h1)) (pdL_rep g.sub ds vs xs h2 hx)
    · cases e
  · exact pd_rep g.sub d v a r e
theorem oz_eq {x y : D} {a b : PyData} {t : Bool} (hx : pdM M x = some a) (hy : pdM M y = some b) (sa : SeqAt.shaped a = true) (sb : SeqAt.shaped b = true) (ht : PyData.eqv a b = t) (q : Φ (.bl t) M) : OpZ K (rEqD K) x y M Φ := fun w v u Q g r1 r2 k =>
  ⟨a, b, pdM_rep g r1 hx, pdM_rep g r2 hy, sa, sb, by rw [ht]; exact k _ w (.bl t) M (Ext.refl w) g rfl q⟩
theorem oz_ne {x y : D} {a b : PyData} {t : Bool} (hx : pdM M x = some a) (hy : pdM M y = some b) (sa : SeqAt.shaped a = true) (sb : SeqAt.shaped b = true) (ht : PyData.eqv a b = t) (q : Φ (.bl (!t)) M) : OpZ K (rNeD K) x y M Φ := fun w v u Q g r1 r2 k =>
  ⟨a, b, pdM_rep g r1 hx, pdM_rep g r2 hy, sa, sb, by rw [ht]; exact k _ w (.bl (!t)) M (Ext.refl w) g rfl q⟩
theorem eqv_int (i j : Int) : PyData.eqv (.int i) (.int j) = decide (i = j) := by
  simp [PyData.eqv]
  rfl
theorem oz_eqI {i j : Int} (q : Φ (.bl (decide (i = j))) M) : OpZ K (rEqD K) (.int i) (.int j) M Φ := oz_eq (a := .int i) (b := .int j) rfl rfl rfl rfl (eqv_int i j) q
theorem oz_neI {i j : Int} (q : Φ (.bl (!decide (i = j))) M) : OpZ K (rNeD K) (.int i) (.int j) M Φ := oz_ne (a := .int i) (b := .int j) rfl rfl rfl rfl (eqv_int i j) q
def flat? : D → Option V
  | .non => some .non
  | .bl b => some (.bl b)
  | .int i => some (.int i)
  | .str s => some (.str s)
  | _ => none
def flats? : List D → Option (List V)
  | [] => some []
  | d :: ds => match flat? d, flats? ds with
    | some a, some b => some (a :: b)
    | _, _ => none
end
end Z
namespace Z
open PySem PySem.Spec PyProof.Rows L2

mutual
def D.bnd (n : Nat) : D → Bool
  | .ref h => decide (h < n)
  | .tup ds => bndL n ds
  | .kt ds => bndL n ds
  | .lst ds => bndL n ds
  | .fz ds => bndL n ds
  | .dk kvs => bndK n kvs
  | _ => true
def bndL (n : Nat) : List D → Bool
  | [] => true
  | d :: ds => d.bnd n && bndL n ds
def bndK (n : Nat) : List (Key × D) → Bool
  | [] => true
  | (_, d) :: ds => d.bnd n && bndK n ds
end
def MO.bnd (n : Nat) : MO → Bool
  | .lst ds => bndL n ds
  | .dT kvs => bndL n (kvs.map (·.2))
  | .dK kvs => bndL n (kvs.map (·.2))
  | .ins _ fs => bndL n (fs.map (·.2))
  | .fT _ kvs => bndL n (kvs.map (·.2))
  | .fK _ kvs => bndL n (kvs.map (·.2))
  | .xd _ fs => bndL n (fs.map (·.2))
  | .gone => true
def Wd.cut (w : Wd) (n : Nat) : Wd := ⟨w.B, w.α.take n, w.H⟩
section
variable {K : PySem.W.Frag} {w : Wd} {n : Nat}
mutual
theorem Rep.cut : ∀ (d : D) (v : V), Rep K w d v → d.bnd n = true → Rep K (w.cut n) d v
  | .non, _, h, _ => h
  | .bl _, _, h, _ => h
  | .int _, _, h, _ => h
  | .str _, _, h, _ => h
  | .ty _, _, h, _ => h
  | .glo _, _, h, _ => h
  | .ref k, _, h, b => by
    obtain ⟨a, ha, hv⟩ := h
    have hk : k < n := by
      unfold D.bnd at b
      exact of_decide_eq_true b
    exact ⟨a, (List.getElem?_take_of_lt hk).trans ha, hv⟩
  | .tup ds, _, h, b => by
    obtain ⟨a, vs, hv, hs, hr⟩ := h
    exact ⟨a, vs, hv, hs, RepL.cut ds vs hr (by unfold D.bnd at b; exact b)⟩
  | .kt ds, _, h, b => by
    obtain ⟨a, vs, hv, hs, hr⟩ := h
    exact ⟨a, vs, hv, hs, RepL.cut ds vs hr (by unfold D.bnd at b; exact b)⟩
  | .lst ds, _, h, b => by
    obtain ⟨a, vs, hv, hs, hr⟩ := h
    exact ⟨a, vs, hv, hs, RepL.cut ds vs hr (by unfold D.bnd at b; exact b)⟩
  | .fz ds, _, h, b => by
    obtain ⟨a, vs, hv, hs, hr⟩ := h
    exact ⟨a, vs, hv, hs, RepL.cut ds vs hr (by unfold D.bnd at b; exact b)⟩
  | .dk kvs, _, h, b => by
    obtain ⟨a, vs, hv, hs, hr⟩ := h
    exact ⟨a, vs, hv, hs, RepK.cut kvs vs hr (by unfold D.bnd at b; exact b)⟩
theorem RepL.cut : ∀ (ds : List D) (vs : List V), RepL K w ds vs → bndL n ds = true → RepL K (w.cut n) ds vs
  | [], _, h, _ => h
  | d :: ds, _, h, b => by
    obtain ⟨v, r, hv, h1, h2⟩ := h
    unfold bndL at b
    have b' := Bool.and_eq_true_iff.mp b
    exact ⟨v, r, hv, Rep.cut d v h1 b'.1, RepL.cut ds r h2 b'.2⟩
theorem RepK.cut : ∀ (ds : List (Key × D)) (vs : List (Key × V)), RepK K w ds vs → bndK n ds = true → RepK K (w.cut n) ds vs
  | [], _, h, _ => h
  | (k, d) :: ds, _, h, b => by
    obtain ⟨v, r, hv, h1, h2⟩ := h
    unfold bndK at b
    have b' := Bool.and_eq_true_iff.mp b
    exact ⟨v, r, hv, Rep.cut d v h1 b'.1, RepK.cut ds r h2 b'.2⟩
end
theorem Own.cut {a : Addr} {m : MO} (h : Own K w a m) (b : m.bnd n = true) : Own K (w.cut n) a m := by
  cases m with
  | lst ds =>
    obtain ⟨h1, vs, h2, h3⟩ := h
    exact ⟨h1, vs, h2, RepL.cut _ _ h3 b⟩
  | dT kvs =>
    obtain ⟨h1, vs, h2, h3, h4⟩ := h
    exact ⟨h1, vs, h2, h3, RepL.cut _ _ h4 b⟩
  | dK kvs =>
    obtain ⟨h1, vs, h2, h3, h4⟩ := h
    exact ⟨h1, vs, h2, h3, RepL.cut _ _ h4 b⟩
  | ins C fs =>
    obtain ⟨h1, dx, vs, h2, h3, h4⟩ := h
    exact ⟨h1, dx, vs, h2, h3, RepL.cut _ _ h4 b⟩
  | fT o kvs =>
    obtain ⟨h1, h2, dx, vs, h3, q4, q5⟩ := h
    exact ⟨h1, h2, dx, vs, h3, q4, RepL.cut _ _ q5 b⟩
  | fK o kvs =>
    obtain ⟨h1, h2, dx, vs, h3, q4, q5⟩ := h
    exact ⟨h1, h2, dx, vs, h3, q4, RepL.cut _ _ q5 b⟩
  | xd c fs =>
    obtain ⟨h1, vs, h2, h3, h4⟩ := h
    exact ⟨h1, vs, h2, h3, RepL.cut _ _ h4 b⟩
  | gone => trivial
theorem GM.cut {M : Mem} (g : GM K w M) (b : ∀ m ∈ M.take n, m.bnd n = true) : GM K (w.cut n) (M.take n) := by
  refine ⟨g.sub, ?_, ?_, fun k a o h1 h2 => ?_, fun a h => g.hd a (List.mem_of_mem_take h)⟩
  · show (w.α.take n).length = _
    rw [List.length_take, List.length_take, g.len]
  · exact g.nd.sublist (List.take_sublist n w.α)
  · have h1' : (w.α.take n)[k]? = some a := h1
    have hk : k < n := by
      have z := (List.getElem?_eq_some_iff.mp h1').1
      rw [List.length_take] at z
      omega
    rw [List.getElem?_take_of_lt hk] at h1'
    have h2' := h2
    rw [List.getElem?_take_of_lt hk] at h2'
    exact Own.cut (g.own k a o h1' h2') (b o (List.mem_of_getElem? h2))
theorem ext_cut {w0 : Wd} (e : Ext w0 w) (h : w0.α.length ≤ n) : Ext w0 (w.cut n) := by
  obtain ⟨β, hβ⟩ := e.α
  refine ⟨e.B, ⟨β.take (n - w0.α.length), ?_⟩, e.fr, e.nb, fun a h => e.na a (List.mem_of_mem_take h), e.st⟩
  show w.α.take n = _
  rw [hβ, List.take_append, List.take_of_length_le h]
end
structure Weak (n0 : Nat) (ρ : Sl) (M : Mem) (ρ' : Sl) (M' : Mem) : Prop where
  len : ρ'.length = ρ.length
  h : ∃ n, n0 ≤ n ∧ M' = M.take n ∧ (∀ m ∈ M.take n, m.bnd n = true) ∧ ∀ (i : Nat) d, ρ'[i]? = some (some d) → ρ[i]? = some (some d) ∧ d.bnd n = true
def Wk (n0 : Nat) (P : Sl → Mem → Prop) (ρ : Sl) (M : Mem) : Prop := P ρ M ∨ ∃ ρ' M', Weak n0 ρ M ρ' M' ∧ P ρ' M'
theorem Wk.run {K : PySem.W.Frag} {w0 w : Wd} {n0 : Nat} {P : Sl → Mem → Prop} {ρ : Sl} {M : Mem} {σ : L2.St} (h : Wk n0 P ρ M) (e : Ext w0 w) (hn : w0.α.length ≤ n0) (g : GM K w M) (r : RepE K w ρ σ) :
    ∃ w' ρ' M', w'.H = w.H ∧ Ext w0 w' ∧ GM K w' M' ∧ RepE K w' ρ' σ ∧ P ρ' M' := by
  rcases h with h | ⟨ρ', M', ⟨hl, n, h1, h2, h3, h4⟩, p⟩
  · exact ⟨w, ρ, M, rfl, e, g, r, h⟩
  · subst h2
    refine ⟨w.cut n, ρ', _, rfl, ext_cut e (Nat.le_trans hn h1), g.cut h3, ⟨hl.trans r.len, fun i d hd => ?_⟩, p⟩
    obtain ⟨q1, q2⟩ := h4 i d hd
    obtain ⟨v, hv, rv⟩ := r.get i d q1
    exact ⟨v, hv, Rep.cut _ _ rv q2⟩

def JZ (K : PySem.W.Frag) (J : It) (ds : List D) (w0 : Wd) (G : Mem → Prop) : Prop := ∀ (i : Nat) w M', Ext w0 w → GM K w M' → G M' →
  (∀ d, ds[i]? = some d → J.go i w.H ∧ ∀ x H', J.yld i w.H x H' → ∃ w', w'.H = H' ∧ Ext w w' ∧ GM K w' M' ∧ Rep K w' d x) ∧ (i = ds.length → J.stop i w.H)
def IW (K : PySem.W.Frag) (W : WX) (wi : TI) (ρ : Sl) (M : Mem) (Ψ : List D → (Mem → Prop) → Mem → Prop) (Ξ : XN) : Prop :=
  ∀ w σ (R : It → Hp → Prop), GM K w M → RepE K w ρ σ → XOK K W w Ξ → (∀ J w' ds G M', Ext w w' → GM K w' M' → JZ K J ds w' G → Ψ ds G M' → R J w'.H) → wi σ w.H R
theorem PI.or {X : Cx} {tg it : Expr} {w1 w2 : TI} (a : PI X tg it w1) (b : PI X tg it w2) : PI X tg it (fun σ H R => w1 σ H R ∨ w2 σ H R) :=
  ⟨fun pins s σ H R I h => h.elim (fun z => a.run pins s σ H R I z) fun z => b.run pins s σ H R I z⟩
def iAny (K : PySem.W.Frag) (te : TE) : TI := fun σ H R => iList K te σ H R ∨ iTup K te σ H R ∨ iStr te σ H R
theorem pi_any {X : Cx} {tg e : Expr} {te : TE} (he : PE X e te) : PI X tg e (iAny X.K te) := PI.or (pi_list he) (PI.or (pi_tup he) (pi_str he))
section
variable {K : PySem.W.Frag} {W : WX} {ρ : Sl} {M : Mem} {Ξ : XN} {te : TE} {tA : TA} {Ψ : List D → (Mem → Prop) → Mem → Prop} {Δ : Ed} {wi : TI} {g : TG} {tb : TS}
theorem jz_list {w : Wd} {a : Addr} {vs : List V} {ds : List D} {d0 : D} (r : Rep K w d0 (.ref a)) (hM : asS M d0 = some ds) (hT : isTp d0 = false) : JZ K (Itl K a) ds w (fun M' => asS M' d0 = some ds) := fun i w' M' e g hG => by
  obtain ⟨a', us, ea, hs, rl⟩ := asS_rep g (Rep.mono e _ _ r) hG
  cases ea
  rcases hs with ⟨z, _⟩ | ⟨_, hs⟩
  · rw [hT] at z
    cases z
  · refine ⟨fun d hd => ?_, fun he => ⟨us, hs, by rw [← rl.length, he]; exact Nat.le_refl _⟩⟩
    obtain ⟨v, hv, rv⟩ := rl.get hd
    exact ⟨⟨us, v, hs, hv⟩, fun x H' ⟨eH, y⟩ => ⟨w', eH.symm, Ext.refl _, g, by
      have := y us hs
      rw [hv] at this
      cases this
      exact rv⟩⟩
theorem jz_tup {w : Wd} {a : Addr} {ds : List D} (r : Rep K w (.tup ds) (.ref a)) : JZ K (Itt K a) ds w (fun _ => True) := fun i w' M' e g _ => by
  obtain ⟨a', us, ea, hs, rl⟩ := Rep.mono e _ _ r
  cases ea
  have hs' : SqT K w'.H a us := .inl (.inl (g.sub _ _ hs))
  refine ⟨fun d hd => ?_, fun he => ⟨us, hs', by rw [← rl.length, he]; exact Nat.le_refl _⟩⟩
  obtain ⟨v, hv, rv⟩ := rl.get hd
  exact ⟨⟨us, v, hs', hv⟩, fun x H' ⟨eH, y⟩ => ⟨w', eH.symm, Ext.refl _, g, by
    have := y us hs'
    rw [hv] at this
    cases this
    exact rv⟩⟩
theorem jz_kt {w : Wd} {a : Addr} {ds : List D} (r : Rep K w (.kt ds) (.ref a)) : JZ K (Itt K a) ds w (fun _ => True) := fun i w' M' e g _ => by
  obtain ⟨a', us, ea, hs, rl⟩ := Rep.mono e _ _ r
  cases ea
  have hs' := sqt_same g.sub hs
  refine ⟨fun d hd => ?_, fun he => ⟨us, hs', by rw [← rl.length, he]; exact Nat.le_refl _⟩⟩
  obtain ⟨v, hv, rv⟩ := rl.get hd
  exact ⟨⟨us, v, hs', hv⟩, fun x H' ⟨eH, y⟩ => ⟨w', eH.symm, Ext.refl _, g, by
    have := y us hs'
    rw [hv] at this
    cases this
    exact rv⟩⟩
theorem iw_list (h : EW K W te ρ M (fun d M1 => isTp d = false ∧ ∃ ds, asS M1 d = some ds ∧ Ψ ds (fun M' => asS M' d = some ds) M1) Ξ) : IW K W (iAny K te) ρ M Ψ Ξ := fun w σ R g e x k =>
  .inl (h w σ _ g e x fun v w1 d M1 e1 g1 r1 ⟨hT, ds, hd, q⟩ => by
    obtain ⟨a, vs, rfl, hs, rl⟩ := asS_rep g1 r1 hd
    rcases hs with ⟨z, _⟩ | ⟨_, hs⟩
    · rw [hT] at z
      cases z
    · exact ⟨a, rfl, ⟨vs, hs⟩, k _ w1 ds _ M1 e1 g1 (jz_list (vs := vs) r1 hd hT) q⟩)
theorem iw_str (h : EW K W te ρ M (fun d M1 => ∃ z : Str, d = .str z ∧ Ψ (z.cps.toList.map fun c => .str ⟨#[c]⟩) (fun _ => True) M1) Ξ) : IW K W (iAny K te) ρ M Ψ Ξ := fun w σ R g e x k =>
  .inr (.inr (h w σ _ g e x fun v w1 d M1 e1 g1 r1 ⟨z, hd, q⟩ => by
    subst hd
    refine ⟨z, r1, k _ w1 _ _ M1 e1 g1 (fun i w' M' e g _ => ⟨fun d hd => ?_, fun he => ?_⟩) q⟩
    · rw [List.getElem?_map] at hd
      cases hc : z.cps.toList[i]? with
      | none =>
        rw [hc] at hd
        cases hd
      | some c =>
        rw [hc] at hd
        cases hd
        have hc' : z.cps[i]? = some c := by simpa using hc
        refine ⟨(Array.getElem?_eq_some_iff.mp hc').1, fun x H' ⟨eH, c', h1, h2⟩ => ⟨w', eH.symm, Ext.refl _, g, ?_⟩⟩
        rw [hc'] at h1
        cases h1
        exact h2
    · show z.cps.size ≤ i
      rw [he]
      simp))
def rngD (lo : Int) (n : Nat) : List D := (List.range n).map fun i => .int (lo + (i : Nat))
theorem rngD_get {lo : Int} {n i : Nat} {d : D} (h : (rngD lo n)[i]? = some d) : i < n ∧ d = .int (lo + i) := by
  unfold rngD at h
  rw [List.getElem?_map] at h
  by_cases hi : i < n
  · rw [List.getElem?_range hi] at h
    cases h
    exact ⟨hi, rfl⟩
  · rw [List.getElem?_eq_none (by simpa using hi)] at h
    cases h
theorem rngD_len (lo : Int) (n : Nat) : (rngD lo n).length = n := by simp [rngD]
theorem jz_rng {w : Wd} {lo : Int} {n : Nat} : JZ K (Itr lo n) (rngD lo n) w (fun _ => True) := fun i w' M' e g _ => by
  refine ⟨fun d hd => ?_, fun he => ?_⟩
  · obtain ⟨hi, rfl⟩ := rngD_get hd
    exact ⟨hi, fun x H' ⟨eH, ex⟩ => ⟨w', eH.symm, Ext.refl _, g, ex⟩⟩
  · rw [rngD_len] at he
    exact Nat.le_of_eq he.symm
theorem iw_rng1 (h : EA K W tA ρ M (fun ds M1 => ∃ j : Int, ds = [.int j] ∧ -(2 ^ 62) ≤ j ∧ j < 2 ^ 62 ∧ Ψ (rngD 0 j.toNat) (fun _ => True) M1) Ξ) : IW K W (iRng1 tA) ρ M Ψ Ξ := fun w σ R g e x k =>
  h w σ _ g e x fun vs w1 ds M1 e1 g1 r1 ⟨j, hd, b1, b2, q⟩ => by
    subst hd
    obtain ⟨v, r, rfl, rv, rr⟩ := r1
    cases (show r = [] from rr)
    cases (show v = V.int j from rv)
    exact ⟨j, rfl, b1, b2, k _ w1 _ _ M1 e1 g1 jz_rng q⟩
theorem sw_for (h : IW K W wi ρ M (fun ds G M1 => ∃ Iv : Nat → Sl → Mem → Prop, Iv 0 ρ M1 ∧ (∀ i ρ' M', Iv i ρ' M' → G M') ∧
      (∀ i d ρ' M', ds[i]? = some d → Iv i ρ' M' → GW K g d ρ' M' fun ρ2 M2 => SW K W tb ρ2 M2 { Δ with nx := Wk M1.length (Iv (i + 1)), ct := Wk M1.length (Iv (i + 1)), bk := Δ.nx }) ∧
      ∀ ρ' M', Iv ds.length ρ' M' → Δ.nx ρ' M') Δ.xn) : SW K W (tFor wi g tb) ρ M Δ := fun w σ Dn gm e ok =>
  h w σ _ gm e ok.xn fun J w1 ds G M1 e1 g1 jz ⟨Iv, i0, iG, turn, fin⟩ => by
    have hn : w1.α.length ≤ M1.length := Nat.le_of_eq g1.len
    refine ⟨fun i m σ' H => m = ds.length - i ∧ i ≤ ds.length ∧ ∃ w' ρ' M', w'.H = H ∧ Ext w1 w' ∧ GM K w' M' ∧ RepE K w' ρ' σ' ∧ Iv i ρ' M', ⟨ds.length, rfl, Nat.zero_le _, w1, ρ, M1, rfl, Ext.refl _, g1, e.mono e1, i0⟩, ?_⟩
    rintro i m σ' H ⟨rfl, hi, w', ρ', M', rfl, e', g', r', inv⟩
    obtain ⟨z1, z2⟩ := jz i w' M' e' g' (iG _ _ _ inv)
    by_cases hlt : i < ds.length
    · have hd : ds[i]? = some ds[i] := by simp [hlt]
      obtain ⟨go, step⟩ := z1 _ hd
      refine .inr ⟨go, fun σ2 H2 => ∃ w2 ρ2 M2, w2.H = H2 ∧ Ext w1 w2 ∧ GM K w2 M2 ∧ RepE K w2 ρ2 σ2 ∧ Iv (i + 1) ρ2 M2, fun σ2 H2 ⟨w2, ρ2, M2, a, b, c, d, f⟩ => ⟨ds.length - (i + 1), by omega, rfl, hlt, w2, ρ2, M2, a, b, c, d, f⟩, fun x H' y => ?_⟩
      obtain ⟨w2, rfl, e2, g2, rx⟩ := step x H' y
      refine turn i _ ρ' M' hd inv w2 σ' x _ g2 (r'.mono e2) rx fun ρ3 M3 σ3 w3 e3 g3 r3 sw => ?_
      refine sw w3 σ3 _ g3 r3 ?_
      have e03 : Ext w1 w3 := (e'.trans e2).trans e3
      have okw : EdOK K W w3 Δ Dn := ok.mono (e1.trans e03)
      refine ⟨fun ρ4 M4 σ4 w4 e4 g4 r4 q => ?_, okw.rt, okw.nx, fun ρ4 M4 σ4 w4 e4 g4 r4 q => ?_, okw.xn⟩
      · obtain ⟨w5, ρ5, M5, a, b, c, d, f⟩ := q.run (e03.trans e4) hn g4 r4
        exact ⟨w5, ρ5, M5, a, b, c, d, f⟩
      · obtain ⟨w5, ρ5, M5, a, b, c, d, f⟩ := q.run (e03.trans e4) hn g4 r4
        exact ⟨w5, ρ5, M5, a, b, c, d, f⟩
    · have he : i = ds.length := by omega
      subst he
      exact .inl ⟨z2 rfl, ok.nx ρ' M' σ' w' (e1.trans e') g' r' (fin ρ' M' inv)⟩

def WpOK (g : TG) (vs : List Nat) : Prop := ∀ x σ H (Q : L2.St → Hp → Prop), g x σ H Q → g x σ H fun σ2 H2 => wipe σ2 vs = wipe σ vs ∧ Q σ2 H2
theorem wipe_out {i : Nat} {v : Option V} : ∀ (vs : List Nat) (σ : L2.St), i ∉ vs → wipe (σ.set i v) vs = (wipe σ vs).set i v
  | [], _, _ => rfl
  | b :: vs, σ, hn => by
    have h1 : i ≠ b := fun z => hn (z ▸ List.mem_cons_self)
    have h2 : i ∉ vs := fun z => hn (List.mem_cons_of_mem _ z)
    unfold wipe
    rw [wipe_out vs σ h2, List.set_comm _ _ h1]
theorem wipe_set {i : Nat} {v : Option V} : ∀ {vs : List Nat} {σ : L2.St}, i ∈ vs → wipe (σ.set i v) vs = wipe σ vs
  | [], _, h => by cases h
  | a :: vs, σ, h => by
    unfold wipe
    by_cases hm : i ∈ vs
    · rw [wipe_set hm]
    · have ha : i = a := (List.mem_cons.mp h).elim id fun z => absurd z hm
      subst ha
      rw [wipe_out vs σ hm, List.set_set]
theorem wipe_wipe {σ : L2.St} : ∀ (vs : List Nat), wipe (wipe σ vs) vs = wipe σ vs
  | [] => rfl
  | v :: vs => by
    show (wipe ((wipe σ vs).set v none) vs).set v none = (wipe σ vs).set v none
    by_cases hm : v ∈ vs
    · rw [wipe_set hm, wipe_wipe vs]
    · rw [wipe_out vs _ hm, wipe_wipe vs, List.set_set]
theorem wp_name {i : Nat} {vs : List Nat} (h : i ∈ vs) : WpOK (gName i) vs := fun x σ H Q q => ⟨wipe_set h, q⟩
def WpsOK (g : TGs) (vs : List Nat) : Prop := ∀ xs σ H (Q : L2.St → Hp → Prop), g xs σ H Q → g xs σ H fun σ2 H2 => wipe σ2 vs = wipe σ vs ∧ Q σ2 H2
theorem wp_nil {vs : List Nat} : WpsOK gNil vs := fun xs σ H Q q => ⟨q.1, rfl, q.2⟩
theorem wp_consN {i : Nat} {vs : List Nat} {gs : TGs} (h : i ∈ vs) (h2 : WpsOK gs vs) : WpsOK (gCons (gName i) gs) vs := fun xs σ H Q q => by
  obtain ⟨v, r, e, q⟩ := q
  refine ⟨v, r, e, ?_⟩
  have z := h2 r (σ.set i (some v)) H Q q
  rw [wipe_set h] at z
  exact z
theorem wp_tup {n : Nat} {vs : List Nat} {gs : TGs} (h : WpsOK gs vs) : WpOK (gTup K n gs) vs := fun x σ H Q ⟨a, xs, e, hs, hl, q⟩ => ⟨a, xs, e, hs, hl, h xs σ H Q q⟩
def wipeZ (ρ : Sl) : List Nat → Sl
  | [] => ρ
  | v :: vs => (wipeZ ρ vs).set v none
theorem wipeZ_rep {w : Wd} {σ : L2.St} (e : RepE K w ρ σ) : ∀ vs, RepE K w (wipeZ ρ vs) (wipe σ vs)
  | [] => e
  | v :: vs => by
    have ih := wipeZ_rep e vs
    refine ⟨by unfold wipeZ wipe; rw [List.length_set, List.length_set]; exact ih.len, fun i d h => ?_⟩
    unfold wipeZ at h
    unfold wipe
    by_cases hv : v = i
    · subst hv
      by_cases hl : v < (wipeZ ρ vs).length
      · rw [List.getElem?_set_self hl] at h
        cases h
      · rw [List.getElem?_eq_none (by rw [List.length_set]; omega)] at h
        cases h
    · rw [List.getElem?_set_ne hv] at h ⊢
      exact ih.get i d h
abbrev W0 : WX := fun _ _ _ _ => False
abbrev Ξ0 : XN := fun _ _ _ _ => False
theorem xok0 {w : Wd} {W : WX} : XOK K W w Ξ0 := fun _ _ _ _ _ _ _ _ _ _ _ _ z => z.elim
def WkM (n0 : Nat) (P : Mem → Prop) (M : Mem) : Prop := P M ∨ ∃ n, n0 ≤ n ∧ (∀ m ∈ M.take n, m.bnd n = true) ∧ P (M.take n)
theorem RepL.sameBα {w w' : Wd} {ds : List D} {vs : List V} (hB : w'.B = w.B) (hα : w'.α = w.α) (h : RepL K w ds vs) : RepL K w' ds vs := RepL.mono2 (fun a o z => by rw [hB]; exact z) ⟨[], by rw [hα, List.append_nil]⟩ ds vs h
def Wd.sw (w : Wd) (p : Addr) (o : HO) : Wd := ⟨w.B, w.α, upd w.H p o⟩
section
variable {w w' : Wd} {p : Addr} {o o' : HO}
theorem sw_out (hB : w.B p = none) (hA : p ∉ w.α) (e : Ext (w.sw p o) w') (ho : ∀ vs, o ≠ .tup vs := by intro _ h; cases h) : w'.B p = none ∧ p ∉ w'.α := by
  have hs : (w.sw p o).H p = some o := upd_same
  constructor
  · cases q : w'.B p with
    | none => rfl
    | some u =>
      rcases e.nb _ _ q with z | (z | ⟨vs, z⟩) | z
      · rw [show (w.sw p o).B p = none from hB] at z
        cases z
      · rw [hs] at z
        cases z
      · rw [hs] at z
        exact absurd (Option.some.inj z) (ho vs)
      · exact absurd z hA
  · intro q
    rcases e.na _ q with z | z
    · exact hA z
    · rw [hs] at z
      cases z
theorem ext_sw (e : Ext (w.sw p o) w') (ho : ∀ vs, o ≠ .tup vs := by intro _ h; cases h) : Ext (w.sw p o') (w'.sw p o') := by
  refine ⟨e.B, e.α, fun a u h n => ?_, fun a u h => ?_, fun a h => ?_, fun a h => ?_⟩
  · show upd w'.H p o' a = some u
    have h' : upd w.H p o' a = some u := h
    by_cases ha : a = p
    · subst ha
      rw [upd_same] at h' ⊢
      exact h'
    · rw [upd_ne ha] at h' ⊢
      exact e.fr a u (by show upd w.H p o a = some u; rw [upd_ne ha]; exact h') n
  · rcases e.nb a u h with z | (z | ⟨vs, z⟩) | z
    · exact .inl z
    rotate_left
    · have z' : upd w.H p o a = some (.tup vs) := z
      by_cases ha : a = p
      · subst ha
        rw [upd_same] at z'
        exact absurd (Option.some.inj z') (ho vs)
      · rw [upd_ne ha] at z'
        refine .inr (.inl (.inr ⟨vs, ?_⟩))
        show upd w.H p o' a = _
        rw [upd_ne ha]
        exact z'
    rotate_left
    · have z' : upd w.H p o a = none := z
      refine .inr (.inl (.inl ?_))
      show upd w.H p o' a = none
      by_cases ha : a = p
      · subst ha
        rw [upd_same] at z'
        cases z'
      · rw [upd_ne ha] at z' ⊢
        exact z'
    · exact .inr (.inr z)
  · rcases e.na a h with z | z
    · exact .inl z
    · have z' : upd w.H p o a = none := z
      refine .inr ?_
      show upd w.H p o' a = none
      by_cases ha : a = p
      · subst ha
        rw [upd_same] at z'
        cases z'
      · rw [upd_ne ha] at z' ⊢
        exact z'
  · have h' : upd w'.H p o' a = none := h
    show upd w.H p o' a = none
    by_cases ha : a = p
    · subst ha
      rw [upd_same] at h'
      cases h'
    · rw [upd_ne ha] at h' ⊢
      have z := e.st a h'
      have z' : upd w.H p o a = none := z
      rw [upd_ne ha] at z'
      exact z'
theorem Own.sameBα {a : Addr} {m : MO} (hB : w'.B = w.B) (hα : w'.α = w.α) (hH : w'.H a = w.H a) (h : Own K w a m) : Own K w' a m := by
  cases m with
  | lst ds =>
    obtain ⟨h1, vs, h2, h3⟩ := h
    exact ⟨by rw [hB]; exact h1, vs, hH.trans h2, RepL.sameBα hB hα h3⟩
  | dT kvs =>
    obtain ⟨h1, vs, h2, h3, h4⟩ := h
    exact ⟨by rw [hB]; exact h1, vs, hH.trans h2, h3, RepL.sameBα hB hα h4⟩
  | dK kvs =>
    obtain ⟨h1, vs, h2, h3, h4⟩ := h
    exact ⟨by rw [hB]; exact h1, vs, hH.trans h2, h3, RepL.sameBα hB hα h4⟩
  | ins C fs =>
    obtain ⟨h1, dx, vs, h2, h3, h4⟩ := h
    exact ⟨by rw [hB]; exact h1, dx, vs, hH.trans h2, h3, RepL.sameBα hB hα h4⟩
  | fT o kvs =>
    obtain ⟨h1, h2, dx, vs, h3, q4, q5⟩ := h
    exact ⟨by rw [hB]; exact h1, hH.trans h2, dx, vs, h3, q4, RepL.sameBα hB hα q5⟩
  | fK o kvs =>
    obtain ⟨h1, h2, dx, vs, h3, q4, q5⟩ := h
    exact ⟨by rw [hB]; exact h1, hH.trans h2, dx, vs, h3, q4, RepL.sameBα hB hα q5⟩
  | xd c fs =>
    obtain ⟨h1, vs, h2, h3, h4⟩ := h
    exact ⟨h1, vs, hH.trans h2, h3, RepL.sameBα hB hα h4⟩
  | gone => trivial
theorem GM.sw {M : Mem} (g : GM K w M) (hB : w.B p = none) (hA : p ∉ w.α) : GM K (w.sw p o) M := by
  refine ⟨fun a u h => ?_, g.len, g.nd, fun k a m h1 h2 => ?_, fun a h => ?_⟩
  · show upd w.H p o a = some u
    rw [upd_ne (ne_of_none h hB)]
    exact g.sub a u h
  · have hne : a ≠ p := fun z => hA (z ▸ List.mem_of_getElem? h1)
    exact Own.sameBα (w := w) (w' := w.sw p o) rfl rfl (upd_ne hne) (g.own k a m h1 h2)
  · have hne : a ≠ p := fun z => hA (z ▸ h)
    show upd w.H p o a ≠ none
    rw [upd_ne hne]
    exact g.hd a h
theorem RepE.sw {σ : L2.St} (r : RepE K w ρ σ) : RepE K (w.sw p o) ρ σ := ⟨r.len, fun i d h => by
  obtain ⟨v, hv, rv⟩ := r.get i d h
  exact ⟨v, hv, Rep.mono2 (w := w) (w' := w.sw p o) (Same.refl _) ⟨[], (List.append_nil _).symm⟩ d v rv⟩⟩
theorem ext_fin (hw : w.H p = none) (hB : w.B p = none) (e : Ext (w.sw p o) w') : Ext w ⟨upd w'.B p o', w'.α, w'.H⟩ := by
  have key : ∀ a u, w.H a = some u → a ≠ p := fun a u h z => by rw [z, hw] at h; cases h
  refine ⟨fun a u h => ?_, e.α, fun a u h n => ?_, fun a u h => ?_, fun a h => ?_, fun a h => upd_st (e.st a h)⟩
  · show upd w'.B p o' a = some u
    have ha : a ≠ p := ne_of_none h hB
    rw [upd_ne ha]
    exact e.B a u h
  · exact e.fr a u (by show upd w.H p o a = some u; rw [upd_ne (key a u h)]; exact h) n
  · have h' : upd w'.B p o' a = some u := h
    by_cases ha : a = p
    · subst ha
      exact .inr (.inl (.inl hw))
    · rw [upd_ne ha] at h'
      rcases e.nb a u h' with z | (z | ⟨vs, z⟩) | z
      · exact .inl z
      · have z' : upd w.H p o a = none := z
        rw [upd_ne ha] at z'
        exact .inr (.inl (.inl z'))
      · have z' : upd w.H p o a = some (.tup vs) := z
        rw [upd_ne ha] at z'
        exact .inr (.inl (.inr ⟨vs, z'⟩))
      · exact .inr (.inr z)
  · rcases e.na a h with z | z
    · exact .inl z
    · have z' : upd w.H p o a = none := z
      by_cases ha : a = p
      · subst ha
        exact .inr hw
      · rw [upd_ne ha] at z'
        exact .inr z'
end
theorem WkM.run {w0 w : Wd} {n0 : Nat} {P : Mem → Prop} {M : Mem} (h : WkM n0 P M) (e : Ext w0 w) (hn : w0.α.length ≤ n0) (g : GM K w M) :
    ∃ w' M', w'.H = w.H ∧ w'.B = w.B ∧ (∃ n, n0 ≤ n ∧ w' = w.cut n ∨ w' = w) ∧ Ext w0 w' ∧ GM K w' M' ∧ P M' := by
  rcases h with h | ⟨n, h1, h3, p⟩
  · exact ⟨w, M, rfl, rfl, ⟨0, .inr rfl⟩, e, g, h⟩
  · exact ⟨w.cut n, _, rfl, rfl, ⟨n, .inl ⟨h1, rfl⟩⟩, ext_cut e (Nat.le_trans hn h1), g.cut h3, p⟩
end
end Z
namespace Z
open PySem PySem.Spec PyProof.Rows L2
section
variable {K : PySem.W.Frag} {W : WX} {ρ : Sl} {M : Mem} {Φ : D → Mem → Prop} {Ξ : XN} {ta tb te : TE} {tA : TA} {Δ : Ed} {w : Wd}

theorem repL1 {d : D} {vs : List V} (r : RepL K w [d] vs) : ∃ v, vs = [v] ∧ Rep K w d v := by
  obtain ⟨v, r, rfl, h1, h2⟩ := r
  cases (show r = [] from h2)
  exact ⟨v, rfl, h1⟩
theorem repL2 {d e : D} {vs : List V} (r : RepL K w [d, e] vs) : ∃ v u, vs = [v, u] ∧ Rep K w d v ∧ Rep K w e u := by
  obtain ⟨v, r, rfl, h1, h2⟩ := r
  obtain ⟨u, rfl, h3⟩ := repL1 h2
  exact ⟨v, u, rfl, h1, h3⟩
def rLenZ (K : PySem.W.Frag) : List V → Hp → VK → Prop := fun xs H Q => ∃ x n, xs = [x] ∧ LenV K x H n ∧ Q (.int n) H
theorem call_lenZ {X : Cx} : CallR X (.builtin "len") (rLenZ X.K) := call_len
theorem cz_len {x : D} {ds : List D} (h : asS M x = some ds) (q : Φ (.int (ds.length : Int)) M) : CbZ K (rLenZ K) [x] M Φ := fun w vs Q g r k => by
  obtain ⟨v, rfl, rv⟩ := repL1 r
  obtain ⟨a, us, rfl, ha, ra⟩ := asS_rep g rv h
  exact ⟨_, _, rfl, ha.elim (fun z => .inr ⟨us, z.2, ra.length⟩) fun z => .inl ⟨us, z.2, ra.length⟩, k _ w (.int _) M (Ext.refl w) g rfl q⟩
theorem cz_lenStr {z : Str} (h : z.length ≤ sizeLine) (q : Φ (.int (z.length : Int)) M) : CbZ K (rLenZ K) [.str z] M Φ := fun w vs Q g r k => by
  obtain ⟨v, rfl, rv⟩ := repL1 r
  cases (show v = V.str z from rv)
  exact ⟨_, _, rfl, ⟨h, rfl⟩, k _ w (.int _) M (Ext.refl w) g rfl q⟩
def rIntZ : List V → Hp → VK → Prop := fun xs H Q => (∃ i, xs = [.int i] ∧ Q (.int i) H) ∨ ∃ k, xs = [.bl k] ∧ Q (.int (if k then 1 else 0)) H
theorem call_intZ {X : Cx} : CallR X (.type "int") rIntZ := call_int1
theorem cz_int {i : Int} (q : Φ (.int i) M) : CbZ K rIntZ [.int i] M Φ := fun w vs Q g r k => by
  obtain ⟨v, rfl, rv⟩ := repL1 r
  exact .inl ⟨i, by rw [show v = V.int i from rv], k _ w (.int i) M (Ext.refl w) g rfl q⟩
theorem cz_intB {b : Bool} (q : Φ (.int (if b then 1 else 0)) M) : CbZ K rIntZ [.bl b] M Φ := fun w vs Q g r k => by
  obtain ⟨v, rfl, rv⟩ := repL1 r
  exact .inr ⟨b, by rw [show v = V.bl b from rv], k _ w (.int (if b then 1 else 0)) M (Ext.refl w) g rfl q⟩
def rAbsZ : List V → Hp → VK → Prop := fun xs H Q => ∃ i, xs = [.int i] ∧ Q (.int (if i < 0 then -i else i)) H
theorem call_absZ {X : Cx} : CallR X (.builtin "abs") rAbsZ := call_abs
theorem cz_abs {i : Int} (q : Φ (.int (if i < 0 then -i else i)) M) : CbZ K rAbsZ [.int i] M Φ := fun w vs Q g r k => by
  obtain ⟨v, rfl, rv⟩ := repL1 r
  exact ⟨i, by rw [show v = V.int i from rv], k _ w (.int _) M (Ext.refl w) g rfl q⟩
def rMax2Z : List V → Hp → VK → Prop := fun xs H Q => ∃ i j, xs = [.int i, .int j] ∧ Q (.int (if j > i then j else i)) H
def rMin2Z : List V → Hp → VK → Prop := fun xs H Q => ∃ i j, xs = [.int i, .int j] ∧ Q (.int (if j < i then j else i)) H
theorem call_max2Z {X : Cx} (hc : X.calm = true) : CallR X (.builtin "max") rMax2Z := call_max2 hc
theorem call_min2Z {X : Cx} (hc : X.calm = true) : CallR X (.builtin "min") rMin2Z := call_min2 hc
theorem cz_max2 {i j : Int} (q : Φ (.int (if j > i then j else i)) M) : CbZ K rMax2Z [.int i, .int j] M Φ := fun w vs Q g r k => by
  obtain ⟨v, u, rfl, rv, ru⟩ := repL2 r
  exact ⟨i, j, by rw [show v = V.int i from rv, show u = V.int j from ru], k _ w (.int _) M (Ext.refl w) g rfl q⟩
theorem cz_min2 {i j : Int} (q : Φ (.int (if j < i then j else i)) M) : CbZ K rMin2Z [.int i, .int j] M Φ := fun w vs Q g r k => by
  obtain ⟨v, u, rfl, rv, ru⟩ := repL2 r
  exact ⟨i, j, by rw [show v = V.int i from rv, show u = V.int j from ru], k _ w (.int _) M (Ext.refl w) g rfl q⟩
def rTupZ (K : PySem.W.Frag) : List V → Hp → VK → Prop := fun xs H Q => ∃ p ys, xs = [.ref p] ∧ ((SqL K H p ys ∧ ∀ l, H l = none → Q (.ref l) (upd H l (.tup ys))) ∨ (SqT K H p ys ∧ Q (.ref p) H))
theorem call_tupZ {X : Cx} : CallR X (.type "tuple") (rTupZ X.K) := call_tuple_of
theorem cz_tup {x : D} {ds : List D} (h : asS M x = some ds) (q : Φ (.tup ds) M) (hk : ∀ es, x ≠ .kt es := by intro _ h; cases h) : CbZ K (rTupZ K) [x] M Φ := fun w vs Q g r k => by
  obtain ⟨v, rfl, rv⟩ := repL1 r
  by_cases hx : isTp x = true
  · cases x with
    | tup es =>
      cases h
      obtain ⟨a, us, rfl, ha, ra⟩ := id rv
      exact ⟨a, us, rfl, .inr ⟨.inl (.inl (g.sub _ _ ha)), k _ w (.tup ds) M (Ext.refl w) g rv q⟩⟩
    | kt es => exact absurd rfl (hk es)
    | _ => cases hx
  · obtain ⟨a, us, rfl, ha, ra⟩ := asS_rep g rv h
    rcases ha with z | ⟨_, ha⟩
    · exact absurd z.1 hx
    · refine ⟨a, us, rfl, .inl ⟨ha, fun p hp => ?_⟩⟩
      have e := ext_addB (o := .tup us) g hp
      exact k _ (w.addB p _) (.tup ds) M e (g.addB hp) ⟨p, us, rfl, upd_same, RepL.mono e _ _ ra⟩ q
def rLstZ (K : PySem.W.Frag) : List V → Hp → VK → Prop := fun xs H Q => ∃ p ys, xs = [.ref p] ∧ (SqL K H p ys ∨ SqT K H p ys) ∧ ∀ l, H l = none → Q (.ref l) (upd H l (.lst ys))
theorem call_lstZ {X : Cx} : CallR X (.type "list") (rLstZ X.K) := call_list_of
theorem cz_lst {x : D} {ds : List D} (h : asS M x = some ds) (q : Φ (.lst ds) M) : CbZ K (rLstZ K) [x] M Φ := fun w vs Q g r k => by
  obtain ⟨v, rfl, rv⟩ := repL1 r
  obtain ⟨a, us, rfl, ha, ra⟩ := asS_rep g rv h
  refine ⟨a, us, rfl, ha.elim (fun z => .inr z.2) fun z => .inl z.2, fun p hp => ?_⟩
  have e := ext_addB (o := .lst us) g hp
  exact k _ (w.addB p _) (.lst ds) M e (g.addB hp) ⟨p, us, rfl, upd_same, RepL.mono e _ _ ra⟩ q
def rLstMZ (K : PySem.W.Frag) : List V → Hp → VK → Prop := rLstZ K
theorem call_lstMZ {X : Cx} : CallR X (.type "list") (rLstMZ X.K) := call_list_of
theorem cz_lstM {x : D} {ds : List D} (h : asS M x = some ds) (q : Φ (.ref M.length) (M ++ [.lst ds])) : CbZ K (rLstMZ K) [x] M Φ := fun w vs Q g r k => by
  obtain ⟨v, rfl, rv⟩ := repL1 r
  obtain ⟨a, us, rfl, ha, ra⟩ := asS_rep g rv h
  refine ⟨a, us, rfl, ha.elim (fun z => .inr z.2) fun z => .inl z.2, fun p hp => ?_⟩
  have e := ext_addM (o := .lst us) g hp
  exact k _ (w.addM p _) (.ref M.length) _ e (g.addM hp (own_lst g hp ra)) ⟨p, addM_get g, rfl⟩ q
def isNon : D → Bool
  | .non => true
  | _ => false
def tyD (M : Mem) : D → Option Value
  | .non => some (.type "NoneType")
  | .bl _ => some (.type "bool")
  | .int _ => some (.type "int")
  | .str _ => some (.type "str")
  | .tup _ => some (.type "tuple")
  | .kt _ => some (.type "tuple")
  | .lst _ => some (.type "list")
  | .dk _ => some (.type "dict")
  | .ref h => match M[h]? with
    | some (.lst _) => some (.type "list")
    | some (.dT _) => some (.type "dict")
    | some (.dK _) => some (.type "dict")
    | _ => none
  | _ => none
theorem tyD_rep {d : D} {v : V} {t : Value} (g : GM K w M) (r : Rep K w d v) (e : tyD M d = some t) : TyX K w.H v t := by
  cases d with
  | non => cases e; rw [show v = V.non from r]; exact .base .non
  | bl b => cases e; rw [show v = V.bl b from r]; exact .base (.bl b)
  | int b => cases e; rw [show v = V.int b from r]; exact .base (.int b)
  | str b => cases e; rw [show v = V.str b from r]; exact .base (.str b)
  | tup ds =>
    cases e
    obtain ⟨a, us, rfl, ha, _⟩ := r
    exact .base (.tup (g.sub _ _ ha))
  | kt ds =>
    cases e
    obtain ⟨a, us, rfl, ha, _⟩ := r
    rcases sqt_same g.sub ha with (h | ⟨o, h⟩) | ⟨o, _, _, h, h2, _⟩
    · exact .base (.tup h)
    · exact .fTuple h
    · exact .kTuple h h2
  | lst ds =>
    cases e
    obtain ⟨a, us, rfl, ha, _⟩ := r
    exact .base (.lst (g.sub _ _ ha))
  | dk ds =>
    cases e
    obtain ⟨a, us, rfl, ha, _⟩ := r
    exact .base (.dK (g.sub _ _ ha))
  | ref h =>
    obtain ⟨a, ha, rfl⟩ := r
    unfold tyD at e
    cases hm : M[h]? with
    | none =>
      simp only [hm] at e
      cases e
    | some o =>
      have z := g.own h a o ha hm
      simp only [hm] at e
      cases o with
      | lst xs =>
        cases e
        obtain ⟨_, vs, h1, _⟩ := z
        exact .base (.lst h1)
      | dT xs =>
        cases e
        obtain ⟨_, vs, h1, _⟩ := z
        exact .base (.dT h1)
      | dK xs =>
        cases e
        obtain ⟨_, vs, h1, _⟩ := z
        exact .base (.dK h1)
      | ins _ _ => cases e
      | fT _ _ => cases e
      | fK _ _ => cases e
      | xd _ _ => cases e
      | gone => cases e
  | _ => cases e
theorem cz_isiC {x : D} {C : Addr} {t : Value} {b : Bool} (h : tyD M x = some t) (hk : PySem.W.kitOne K t (.ref C) = some b) (q : Φ (.bl b) M) : CbZ K (rIsi K) [x, .glo C] M Φ := fun w vs Q g r k => by
  obtain ⟨v, u, rfl, rv, ru⟩ := repL2 r
  cases (show u = V.ref C from ru)
  exact ⟨v, .ref C, t, .ref C, b, rfl, .own C, tyD_rep g rv h, hk, k _ w (.bl b) M (Ext.refl w) g rfl q⟩
def putD (f : Str) (d : D) : List (Str × D) → List (Str × D)
  | [] => [(f, d)]
  | (g, e) :: fs => if g = f then (g, d) :: fs else (g, e) :: putD f d fs
theorem putF_rep {f : Str} {d : D} {v : V} (r : Rep K w d v) : ∀ {fs : List (Str × D)} {kv : List (Str × V)}, RepF K w fs kv → RepF K w (putD f d fs) (putF f v kv)
  | [], kv, h => by
    obtain ⟨h1, h2⟩ := h
    cases kv with
    | nil => exact ⟨rfl, RepL.one r⟩
    | cons a b => cases h1
  | (g, e) :: fs, kv, h => by
    obtain ⟨h1, h2⟩ := h
    cases kv with
    | nil => cases h1
    | cons a b =>
      obtain ⟨a1, a2⟩ := a
      simp only [List.map_cons, List.cons.injEq] at h1
      obtain ⟨rfl, h1⟩ := h1
      obtain ⟨v', r', e', h3, h4⟩ := h2
      simp only [List.map_cons, List.cons.injEq] at e'
      obtain ⟨rfl, rfl⟩ := e'
      unfold putD putF
      by_cases hg : g = f
      · rw [if_pos hg, if_pos hg]
        exact ⟨by simp [h1], ⟨_, _, rfl, r, h4⟩⟩
      · rw [if_neg hg, if_neg hg]
        obtain ⟨p1, p2⟩ := putF_rep r (⟨h1, h4⟩ : RepF K w fs b)
        exact ⟨by simp only [List.map_cons, p1], ⟨_, _, rfl, h3, p2⟩⟩
theorem RepF.mono {κ : Type} {w' : Wd} {fs : List (κ × D)} {kv : List (κ × V)} (e : Ext w w') (h : RepF K w fs kv) : RepF K w' fs kv := ⟨h.1, RepL.mono e _ _ h.2⟩
theorem sw_fld {f : Str} (h : EW K W tb ρ M (fun d M1 => EW K W ta ρ M1 (fun x M2 => ∃ n C fs, x = .ref n ∧ M2[n]? = some (.ins C fs) ∧ Cls K C ∧ NoAttr K C f ∧ fs.length < 1000 ∧ Δ.nx ρ (M2.set n (.ins C (putD f d fs)))) Δ.xn) Δ.xn) :
    SW K W (sFld K ta tb f) ρ M Δ := fun w σ Dn g e ok =>
  h w σ _ g e ok.xn fun v w1 d M1 e1 g1 r1 q1 => q1 w1 σ _ g1 (e.mono e1) (ok.xn.mono e1) fun u w2 x M2 e2 g2 r2 q2 => by
    obtain ⟨n, C, fs, ex, hm, hC, hN, hl, q⟩ := q2
    subst ex
    obtain ⟨a, ha, rfl⟩ := r2
    obtain ⟨hb, dx, kv, hH, hF⟩ := g2.own n a _ ha hm
    have hlen : kv.length < 1000 := by
      have := congrArg List.length hF.1
      simp at this
      omega
    have e3 := ext_put (o := .ins C dx (putF f v kv)) g2 (List.mem_of_getElem? ha)
    refine ⟨a, C, dx, kv, rfl, hH, hC, hN, hlen, ?_⟩
    exact ok.nx ρ _ σ (w2.put a _) ((e1.trans e2).trans e3) (g2.put (m := .ins C (putD f d fs)) ha hb ⟨hb, dx, _, upd_same, RepF.mono e3 (putF_rep (Rep.mono e2 _ _ r1) hF)⟩) (e.mono ((e1.trans e2).trans e3)) q

theorem ew_make {C : Addr} {S : DSp} {Ef : XK} (hE : ∀ w0 σ0, XOK K W w0 Ξ → RepE K w0 ρ σ0 → ∀ cls fo w' M' d, Ext w0 w' → (∀ a, d = some a → w0.H a = none) → GM K w' M' → XdAt K w' d fo → Ξ cls fo ρ M' → Ef cls d w'.H)
    (h : EA K W tA ρ M (fun ds M1 => S (.ref M1.length :: ds) (M1 ++ [.ins C []]) (fun d M2 => d = .non ∧ Φ (.ref M1.length) M2) (fun c fo M' => Ξ c fo ρ M')) Ξ) : EW K W (tMake C (spOf K S) [] Ef tA) ρ M Φ Ξ := fun w σ Q g e x k =>
  h w σ _ g e x fun vs w1 ds M1 e1 g1 r1 q => by
    intro a dx ha hdx hne
    have gd : GM K ⟨w1.B, w1.α, upd w1.H dx (.own a)⟩ M1 := g1.sw (g1.free hdx).1 (g1.free hdx).2
    have ed : Ext w1 ⟨w1.B, w1.α, upd w1.H dx (.own a)⟩ := ⟨Same.refl _, ⟨[], (List.append_nil _).symm⟩, fun b u h _ => by
      show upd w1.H dx _ b = some u
      rw [upd_ne (ne_of_none h hdx)]
      exact h, fun b u h => .inl h, fun b h => .inl h, fun b h => upd_st h⟩
    have ha2 : (⟨w1.B, w1.α, upd w1.H dx (.own a)⟩ : Wd).H a = none := by
      show upd w1.H dx _ a = none
      rw [upd_ne (Ne.symm hne)]
      exact ha
    have g2 := gd.addM (o := .ins C dx []) (m := .ins C []) ha2 ⟨(gd.free ha2).1, dx, [], upd_same, rfl, rfl⟩
    have e2 := ed.trans (ext_addM (o := .ins C dx []) gd ha2)
    refine ⟨Wd.addM ⟨w1.B, w1.α, upd w1.H dx (.own a)⟩ a (.ins C dx []), M1 ++ [.ins C []], .ref M1.length :: ds, _, _, rfl, g2, ⟨.ref a, vs ++ [], rfl, ⟨a, addM_get gd, rfl⟩, by rw [List.append_nil]; exact RepL.mono e2 _ _ r1⟩, q, ?_, ?_⟩
    · intro v w3 d M3 e3 g3 r3 hq
      obtain ⟨hd, q3⟩ := hq
      subst hd
      refine ⟨r3, k (.ref a) w3 (.ref M1.length) M3 ((e1.trans e2).trans e3) g3 ?_ q3⟩
      have r0 : Rep K (Wd.addM ⟨w1.B, w1.α, upd w1.H dx (.own a)⟩ a (.ins C dx [])) (.ref M1.length) (.ref a) := ⟨a, addM_get gd, rfl⟩
      exact Rep.mono e3 _ _ r0
    · intro cls fo w3 M3 d e3 fd g3 xd q3
      have e13 := (e1.trans e2).trans e3
      exact hE w σ x e cls fo w3 M3 d e13 (fun b z => (e1.trans e2).st b (fd b z)) g3 xd q3
theorem hE_WF {E : XK} : ∀ w0 σ0, XOK K (WF E) w0 Ξ → RepE K w0 ρ σ0 → ∀ cls fo w' M' d, Ext w0 w' → (∀ a, d = some a → w0.H a = none) → GM K w' M' → XdAt K w' d fo → Ξ cls fo ρ M' → E cls d w'.H :=
  fun w0 σ0 x e cls fo w' M' d a fd b c q => x cls fo σ0 ρ w' M' d a fd b (e.mono a) c q
end
end Z
namespace Z
open PySem PySem.Spec PyProof.Rows L2
theorem ext_new {K : PySem.W.Frag} {w : Wd} {M : Mem} {p : Addr} {o : HO} (g : GM K w M) (hp : w.H p = none) : Ext w (w.sw p o) := ⟨Same.refl _, ⟨[], (List.append_nil _).symm⟩, fun b u h _ => by
  show upd w.H p o b = some u
  rw [upd_ne (ne_of_none h hp)]
  exact h, fun b u h => .inl h, fun b h => .inl h, fun b h => upd_st h⟩
end Z
namespace Z
open PySem PySem.Spec PyProof.Rows L2

theorem pe_lstM {X : Cx} {es : List Expr} {t : TA} {pos : Pos} (h : PA X es t) : PE X (.List es pos) (tLstM t) := pe_lst h
structure Callee (P : Program) (w : World) (K : PySem.W.Frag) (mg : Str → Option Value) (base : Heap) (x : Str) (k : Nat) (ps : List Str) (S : DSp) (f : Addr) (fd : FuncData) : Prop where
  ok : FnOk P w K mg base (L2.CX P w) k f fd ps (spOf K S)
  mg : mg x = some (.ref f)
  kp : PySem.W.keepIn K (.ref f) = true
  bi : Binds K fd ps []
abbrev FnS (K : PySem.W.Frag) (x qual : Str) (st : Stmt) (f : Addr) (fd : FuncData) : Prop := FunD K x qual (defArgs st) (defBody st) (defScope st) [] [] f fd
section
variable {P : Program} {w : World} {K : PySem.W.Frag} {mg : Str → Option Value} {base : Heap}
theorem fnzD {x qual : Str} {st : Stmt} {f : Addr} {fd : FuncData} {N ps : List Str} {k : Nat} {S : DSp} (F : FnS K x qual st f fd) (sc : FnScope N ps (defScope st)) (len : ∀ ds M Φ Ξ, S ds M Φ Ξ → ds.length = ps.length)
    (body : ∀ (cdv : Value) (A : Around) (outer : List PySem.Env) (s : Shared) (H : Hp) (E : XK), Room k (A.deeper (envOfC qual (defScope st) s.heap.objs.size f cdv)) →
      ∃ t, PSs (cxOf (L2.CX P w) P w K mg base N qual (defScope st) f cdv A outer s H E) (defBody st) t ∧ ∀ ds M Φ Ξ, S ds M Φ Ξ → SW K (WF E) t (startD N ds) M { nx := fun _ M' => Φ .non M', rt := Φ, xn := fun c fo _ M' => Ξ c fo M' }) :
    FnOk P w K mg base (L2.CX P w) (k + 1) f fd ps (spOf K S) := by
  refine F.ok sc (fun vs H Q E h => ?_) (fun cdv A outer s H vs Q E hr h => ?_)
  · obtain ⟨w1, M, ds, Φ, Ξ, _, _, r, s1, _⟩ := h
    rw [← r.length]
    exact len ds M Φ Ξ s1
  · obtain ⟨w1, M, ds, Φ, Ξ, eH, g, r, s1, k1, k2⟩ := h
    subst eH
    obtain ⟨t, h1, h2⟩ := body cdv A outer s w1.H E hr
    refine ⟨t, h1, h2 ds M Φ Ξ s1 w1 _ _ g (startD_rep r) ⟨fun ρ' M' σ' w' a b c q => k1 .non w' .non M' a b rfl q, k1, fun _ _ _ _ _ _ _ z => z.elim, fun _ _ _ _ _ _ _ z => z.elim, fun cls fo σ' ρ' w' M' d a fd b c y q => k2 cls fo w' M' d a fd b y q⟩⟩
theorem FnOk.spmono {k : Nat} {f : Addr} {fd : FuncData} {ps : List Str} {S S' : DSp} (F : FnOk P w K mg base (L2.CX P w) k f fd ps (spOf K S)) (h : ∀ ds M Φ Ξ, S' ds M Φ Ξ → S ds M Φ Ξ) : FnOk P w K mg base (L2.CX P w) k f fd ps (spOf K S') :=
  F.imp fun vs H Q E ⟨w1, M, ds, Φ, Ξ, a, b, c, d, e⟩ => ⟨w1, M, ds, Φ, Ξ, a, b, c, h _ _ _ _ d, e⟩
end


def SLaw : DSp := fun ds M Φ _ => ∃ ns : List Int, ds = [.fz (ns.map D.int)] ∧ ns.length ≤ 63 ∧ M = [] ∧ ∀ M', Φ (.bl true) M'
theorem repInts {K : PySem.W.Frag} {w : Wd} : ∀ ns : List Int, RepL K w (ns.map D.int) (ns.map V.int)
  | [] => rfl
  | n :: ns => ⟨.int n, ns.map V.int, rfl, rfl, repInts ns⟩
theorem law_start {K : PySem.W.Frag} {H : Hp} {a : Addr} {ns : List Int} (hl : ns.length ≤ 63) (h : SqL K H a (ns.map V.int)) : spOf K SLaw [.ref a] H (fun v _ => v = .bl true) (fun _ _ _ => False) := by
  refine ⟨⟨H, [], H⟩, [], [.fz (ns.map D.int)], fun d _ => d = .bl true, fun _ _ _ => False, rfl, ⟨Same.refl _, rfl, List.nodup_nil, fun n a o h => by simp at h, fun a h => by cases h⟩, ⟨.ref a, [], rfl, ⟨a, _, rfl, h, repInts ns⟩, rfl⟩, ⟨ns, rfl, hl, rfl, fun _ => rfl⟩, fun v w' d M' _ _ r q => ?_, fun _ _ _ _ _ _ _ _ _ q => q⟩
  subst q
  exact r
theorem cx_none {P : Program} {w : World} (H : Hp) (s : Shared) (e : Value) (s' : Shared) (h : L2.CX P w [] H s (fun _ _ _ => False) e s') : False := by
  obtain ⟨_, _, _, _, _, _, _, _, _, _, _, _, z⟩ := h
  exact z
end Z
namespace Z
open PySem PySem.Spec PyProof.Rows L2 Builtin

section
variable {X : Cx} {C f : Addr} {k : Nat} {S : DSp} {E : XK} {pins : List (Addr × Obj)} {σ : L2.St} {H : Hp} {s : Shared} {a dx : Addr} {fs : List (Str × V)} {sp : Sp}
theorem ins_at (I : Inv X pins σ H s) (e : H a = some (.ins C dx fs)) : ∃ od, PySem.W.InstAt s.heap a (PySem.W.instObj C dx) C (some od) := by
  obtain ⟨mA, O, _⟩ := ins_get I.hok e
  obtain ⟨od, J, _⟩ := O.look
  exact ⟨od, J⟩
theorem call_at {A : Around} {Q : VK} {us : List Value} {ws : List V} (F : FnR X.prog X.w X.K X.mg X.base (L2.CX X.prog X.w) k f sp) (hr : Room k A) (hA : A.frames = some X.stack) (hx : Passes (L2.CX X.prog X.w) X E) (I : Inv X pins σ H s) (r : Vals ws us) (h : sp ws H Q E) :
    wpAny (model X.prog X.w) A (call (.ref f) us) (EP X pins σ Q) X.xe s :=
  wpAny_call (SlX.run_at F hr ⟨hA, I.env0.mod, I.env0.bs, I.env0.bsz, I.env0.funs, I.env0.frf, I.env0.hok, I.env0.bare⟩ hx I r h)
theorem frames_in1 (I : Inv X pins σ H s) : X.A.in1.frames = some X.stack := (I.env0.in1).frames

end

section
variable {K : PySem.W.Frag} {M : Mem} {Φ : D → Mem → Prop} {C : Addr} {S : DSp}
abbrev NoX : XM := fun _ _ _ => False
theorem sp_run {w : Wd} {ds : List D} {vs : List V} {Q : VK} (g : GM K w M) (r : RepL K w ds vs) {Ψ : D → Mem → Prop} (h : S ds M Ψ NoX) (k : ∀ v w' d M', Ext w w' → GM K w' M' → Rep K w' d v → Ψ d M' → Q v w'.H) : spOf K S vs w.H Q E0 :=
  ⟨w, M, ds, Ψ, NoX, rfl, g, r, h, k, fun _ _ _ _ _ _ _ _ _ q => q.elim⟩
end

end Z
namespace Z
open PySem PySem.Spec PyProof.Rows L2

section
variable {X : Cx}
def rEqLn (K : PySem.W.Frag) : R2 := fun x y H Q => ∃ a b xs ys, x = .ref a ∧ y = .ref b ∧ SqL K H a xs ∧ SqL K H b ys ∧ xs.length ≠ ys.length ∧ Q (.bl false) H
def rNeLn (K : PySem.W.Frag) : R2 := fun x y H Q => ∃ a b xs ys, x = .ref a ∧ y = .ref b ∧ SqL K H a xs ∧ SqL K H b ys ∧ xs.length ≠ ys.length ∧ Q (.bl true) H
theorem op_eqLn (hu : X.A.units < cLine) : OpR X (compareOp .Eq) (rEqLn X.K) := by
  intro pins s σ H x y v u Q I rx ry h
  obtain ⟨a, b, xs, ys, rfl, rfl, ea, eb, hl, q⟩ := h
  obtain rfl : v = Value.ref a := rx
  obtain rfl : u = Value.ref b := ry
  obtain ⟨its, r, ⟨o, n, ho, hc, _, hd⟩, _⟩ := I.list ea
  obtain ⟨its', r', ⟨o', n', ho', hc', _, hd'⟩, _⟩ := I.list eb
  exact PySem.SeqAt.RcAt.lists_lengths (items := its.toArray) (items2 := its'.toArray) ⟨o, ho, hc, n, hd⟩ ⟨o', ho', hc', n', hd'⟩ (by simp; rw [← r.length, ← r'.length]; exact hl) hu _ _ _ _ ⟨.bl false, H, I, rfl, q⟩
theorem op_neLn (hu : X.A.units < cLine) : OpR X (compareOp .NotEq) (rNeLn X.K) := by
  intro pins s σ H x y v u Q I rx ry h
  obtain ⟨a, b, xs, ys, rfl, rfl, ea, eb, hl, q⟩ := h
  obtain rfl : v = Value.ref a := rx
  obtain rfl : u = Value.ref b := ry
  obtain ⟨its, r, ⟨o, n, ho, hc, _, hd⟩, _⟩ := I.list ea
  obtain ⟨its', r', ⟨o', n', ho', hc', _, hd'⟩, _⟩ := I.list eb
  exact PySem.SeqAt.RcNeAt.lists_lengths (items := its.toArray) (items2 := its'.toArray) ⟨o, ho, hc, n, hd⟩ ⟨o', ho', hc', n', hd'⟩ (by simp; rw [← r.length, ← r'.length]; exact hl) hu _ _ _ _ ⟨.bl true, H, I, rfl, q⟩
def rEqT0 (K : PySem.W.Frag) : R2 := fun x y H Q => ∃ a b xs, x = .ref a ∧ y = .ref b ∧ SqT K H a xs ∧ SqT K H b [] ∧ Q (.bl xs.isEmpty) H
def rNeT0 (K : PySem.W.Frag) : R2 := fun x y H Q => ∃ a b xs, x = .ref a ∧ y = .ref b ∧ SqT K H a xs ∧ SqT K H b [] ∧ Q (.bl (!xs.isEmpty)) H
theorem op_eqT0 (hu : X.A.units < cLine) : OpR X (compareOp .Eq) (rEqT0 X.K) := by
  intro pins s σ H x y v u Q I rx ry h
  obtain ⟨a, b, xs, rfl, rfl, ea, eb, q⟩ := h
  obtain rfl : v = Value.ref a := rx
  obtain rfl : u = Value.ref b := ry
  obtain ⟨its, r, ⟨o, e1, h1, n1, d1⟩, _⟩ := I.tuple ea
  obtain ⟨its', r', ⟨o', e2, h2, n2, d2⟩, _⟩ := I.tuple eb
  cases r'
  refine PySem.SeqAt.RcAt.tuples (items := its.toArray) (items2 := #[]) (e := fun _ => true) ⟨o, e1, h1, n1, d1⟩ ⟨o', e2, h2, n2, d2⟩ hu (fun j _ z => absurd z (Nat.not_lt_zero j)) _ _ _ _ ⟨.bl xs.isEmpty, H, I, ?_, q⟩
  show _ = Value.bool xs.isEmpty
  cases r with
  | nil => rfl
  | cons z1 z2 => simp
theorem op_neT0 (hu : X.A.units < cLine) : OpR X (compareOp .NotEq) (rNeT0 X.K) := by
  intro pins s σ H x y v u Q I rx ry h
  obtain ⟨a, b, xs, rfl, rfl, ea, eb, q⟩ := h
  obtain rfl : v = Value.ref a := rx
  obtain rfl : u = Value.ref b := ry
  obtain ⟨its, r, ⟨o, e1, h1, n1, d1⟩, _⟩ := I.tuple ea
  obtain ⟨its', r', ⟨o', e2, h2, n2, d2⟩, _⟩ := I.tuple eb
  cases r'
  refine PySem.SeqAt.RcNeAt.tuples (items := its.toArray) (items2 := #[]) (e := fun _ => true) ⟨o, e1, h1, n1, d1⟩ ⟨o', e2, h2, n2, d2⟩ hu (fun j _ z => absurd z (Nat.not_lt_zero j)) _ _ _ _ ⟨.bl (!xs.isEmpty), H, I, ?_, q⟩
  show _ = Value.bool (!xs.isEmpty)
  cases r with
  | nil => rfl
  | cons z1 z2 => simp
def rEqZ (K : PySem.W.Frag) : R2 := fun x y H Q => rEqD K x y H Q ∨ rEqLn K x y H Q ∨ rEqDA x y H Q ∨ rEq x y H Q ∨ rEqT0 K x y H Q
def rNeZ (K : PySem.W.Frag) : R2 := fun x y H Q => rNeD K x y H Q ∨ rNeLn K x y H Q ∨ rNeDA x y H Q ∨ rNe x y H Q ∨ rNeT0 K x y H Q
theorem op_eqZ (hu : X.A.units + 64 < cLine) : OpR X (compareOp .Eq) (rEqZ X.K) := (op_eqD hu).or ((op_eqLn (by omega)).or ((op_eq_dictA (by omega)).or (op_eq.or (op_eqT0 (by omega)))))
theorem op_neZ (hu : X.A.units + 64 < cLine) : OpR X (compareOp .NotEq) (rNeZ X.K) := (op_neD hu).or ((op_neLn (by omega)).or ((op_ne_dictA (by omega)).or (op_ne.or (op_neT0 (by omega)))))
end
section
variable {K : PySem.W.Frag} {W : WX} {ρ : Sl} {M : Mem} {Φ : D → Mem → Prop} {Ξ : XN} {ta te : TE} {tA : TA} {Δ : Ed} {w : Wd} {x y : D} {g : TG} {wi : TI}
theorem oz_eqD (h : OpZ K (rEqD K) x y M Φ) : OpZ K (rEqZ K) x y M Φ := fun w v u Q g r1 r2 k => .inl (h w v u Q g r1 r2 k)
theorem oz_neD (h : OpZ K (rNeD K) x y M Φ) : OpZ K (rNeZ K) x y M Φ := fun w v u Q g r1 r2 k => .inl (h w v u Q g r1 r2 k)
theorem asL_SqL {v : V} {ds : List D} (g : GM K w M) (r : Rep K w x v) (e : asL M x = some ds) : ∃ a vs, v = .ref a ∧ SqL K w.H a vs ∧ RepL K w ds vs := by
  obtain ⟨a, vs, h1, h2, h3⟩ := asL_rep g r e
  exact ⟨a, vs, h1, .inl (.inl h2), h3⟩
theorem oz_eqLn {xs ys : List D} (hx : asL M x = some xs) (hy : asL M y = some ys) (h : xs.length ≠ ys.length) (q : Φ (.bl false) M) : OpZ K (rEqZ K) x y M Φ := fun w v u Q g r1 r2 k => by
  obtain ⟨a, vs, rfl, h2, h3⟩ := asL_SqL g r1 hx
  obtain ⟨b, us, rfl, h5, h6⟩ := asL_SqL g r2 hy
  exact .inr (.inl ⟨a, b, vs, us, rfl, rfl, h2, h5, by rw [← h3.length, ← h6.length]; exact h, k _ w (.bl false) M (Ext.refl w) g rfl q⟩)
theorem oz_neLn {xs ys : List D} (hx : asL M x = some xs) (hy : asL M y = some ys) (h : xs.length ≠ ys.length) (q : Φ (.bl true) M) : OpZ K (rNeZ K) x y M Φ := fun w v u Q g r1 r2 k => by
  obtain ⟨a, vs, rfl, h2, h3⟩ := asL_SqL g r1 hx
  obtain ⟨b, us, rfl, h5, h6⟩ := asL_SqL g r2 hy
  exact .inr (.inl ⟨a, b, vs, us, rfl, rfl, h2, h5, by rw [← h3.length, ← h6.length]; exact h, k _ w (.bl true) M (Ext.refl w) g rfl q⟩)
theorem oz_eqT0 {xs : List D} (q : Φ (.bl xs.isEmpty) M) : OpZ K (rEqZ K) (.tup xs) (.tup []) M Φ := fun w v u Q g r1 r2 k => by
  obtain ⟨a, vs, rfl, ha, ra⟩ := r1
  obtain ⟨b, us, rfl, hb, rb⟩ := r2
  cases (show us = [] from rb)
  have e : vs.isEmpty = xs.isEmpty := by
    cases xs with
    | nil =>
      cases (show vs = [] from ra)
      rfl
    | cons z zs =>
      obtain ⟨_, _, rfl, _⟩ := ra
      rfl
  exact .inr (.inr (.inr (.inr ⟨a, b, vs, rfl, rfl, .inl (.inl (g.sub _ _ ha)), .inl (.inl (g.sub _ _ hb)), by rw [e]; exact k _ w (.bl _) M (Ext.refl w) g rfl q⟩)))
theorem oz_neT0 {xs : List D} (q : Φ (.bl (!xs.isEmpty)) M) : OpZ K (rNeZ K) (.tup xs) (.tup []) M Φ := fun w v u Q g r1 r2 k => by
  obtain ⟨a, vs, rfl, ha, ra⟩ := r1
  obtain ⟨b, us, rfl, hb, rb⟩ := r2
  cases (show us = [] from rb)
  have e : vs.isEmpty = xs.isEmpty := by
    cases xs with
    | nil =>
      cases (show vs = [] from ra)
      rfl
    | cons z zs =>
      obtain ⟨_, _, rfl, _⟩ := ra
      rfl
  exact .inr (.inr (.inr (.inr ⟨a, b, vs, rfl, rfl, .inl (.inl (g.sub _ _ ha)), .inl (.inl (g.sub _ _ hb)), by rw [e]; exact k _ w (.bl _) M (Ext.refl w) g rfl q⟩)))
theorem oz_neNil {xs : List D} (hx : asL M x = some xs) (q : Φ (.bl (!xs.isEmpty)) M) : OpZ K (rNeZ K) x (.lst []) M Φ := by
  cases xs with
  | nil => exact oz_neD (oz_ne (a := .list []) (b := .list []) (t := true) (by unfold pdM; rw [hx]; rfl) rfl rfl rfl rfl q)
  | cons z zs => exact oz_neLn hx rfl (by simp) q
theorem sw_par {i j : Nat} (h : EA K W tA ρ M (fun ds M1 => ∃ a b, ds = [a, b] ∧ Δ.nx ((ρ.set i (some a)).set j (some b)) M1) Δ.xn) : SW K W (tPar i j tA) ρ M Δ := fun w σ Dn g e ok =>
  h w σ _ g e ok.xn fun vs w1 ds M1 e1 g1 r1 ⟨a, b, ed, q⟩ => by
    subst ed
    obtain ⟨v, u, rfl, rv, ru⟩ := repL2 r1
    exact ⟨v, u, rfl, ok.nx _ M1 _ w1 e1 g1 (((e.mono e1).set rv i).set ru j) q⟩
def tLcM (wi : TI) (g : TG) (tt : TT) (te : TE) (vs : List Nat) : TE := tLc wi g tt te vs
theorem ext_finM {w' : Wd} {p : Addr} {o : HO} (hw : w.H p = none) (e : Ext (w.sw p o) w') : Ext w ⟨w'.B, w'.α ++ [p], w'.H⟩ := by
  have key : ∀ a u, w.H a = some u → a ≠ p := fun a u h z => by rw [z, hw] at h; cases h
  obtain ⟨β, hβ⟩ := e.α
  refine ⟨e.B, ⟨β ++ [p], by show w'.α ++ [p] = _; rw [hβ, List.append_assoc]; rfl⟩, fun a u h n => ?_, fun a u h => ?_, fun a h => ?_, fun a h => upd_st (e.st a h)⟩
  · exact e.fr a u (by show upd w.H p o a = some u; rw [upd_ne (key a u h)]; exact h) n
  · rcases e.nb a u h with z | (z | ⟨vs, z⟩) | z
    · exact .inl z
    · exact .inr (.inl (.inl (upd_st z)))
    · by_cases ha : a = p
      · subst ha
        exact .inr (.inl (.inl hw))
      · have z' : upd w.H p o a = some (.tup vs) := z
        rw [upd_ne ha] at z'
        exact .inr (.inl (.inr ⟨vs, z'⟩))
    · exact .inr (.inr z)
  · rcases List.mem_append.mp h with q | q
    · rcases e.na a q with z | z
      · exact .inl z
      · exact .inr (upd_st z)
    · rw [List.mem_singleton.mp q]
      exact .inr hw
theorem GM.joined {p : Addr} {acc : List D} {L : List V} (g1 : GM K w M) (hB : w.B p = none) (hA : p ∉ w.α) (hH : w.H p = some (.lst L)) (r : RepL K w acc L) : GM K ⟨w.B, w.α ++ [p], w.H⟩ (M ++ [.lst acc]) := by
  have eB : Same w.B (⟨w.B, w.α ++ [p], w.H⟩ : Wd).B := Same.refl _
  have eα : ∃ β, (⟨w.B, w.α ++ [p], w.H⟩ : Wd).α = w.α ++ β := ⟨[p], rfl⟩
  have rL : ∀ ds vs, RepL K w ds vs → RepL K ⟨w.B, w.α ++ [p], w.H⟩ ds vs := RepL.mono2 eB eα
  refine ⟨g1.sub, by show (w.α ++ [p]).length = _; rw [List.length_append, List.length_append, g1.len]; rfl, ?_, fun n a m h1 h2 => ?_, fun x hx => ?_⟩
  · show (w.α ++ [p]).Nodup
    exact List.nodup_append.mpr ⟨g1.nd, by simp, fun x hx y hy z => by
      rw [List.mem_singleton] at hy
      subst hy
      exact hA (z ▸ hx)⟩
  · have h1' : (w.α ++ [p])[n]? = some a := h1
    by_cases hl : n < w.α.length
    · rw [List.getElem?_append_left hl] at h1'
      rw [List.getElem?_append_left (g1.len ▸ hl)] at h2
      have z := g1.own n a m h1' h2
      cases m with
      | lst ds =>
        obtain ⟨p1, vs, p2, p3⟩ := z
        exact ⟨p1, vs, p2, rL _ _ p3⟩
      | dT kvs =>
        obtain ⟨p1, vs, p2, p3, p4⟩ := z
        exact ⟨p1, vs, p2, p3, rL _ _ p4⟩
      | dK kvs =>
        obtain ⟨p1, vs, p2, p3, p4⟩ := z
        exact ⟨p1, vs, p2, p3, rL _ _ p4⟩
      | ins C fs =>
        obtain ⟨p1, dx, vs, p2, p3, p4⟩ := z
        exact ⟨p1, dx, vs, p2, p3, rL _ _ p4⟩
      | fT o kvs =>
        obtain ⟨p1, p2, dx, vs, p3, q4, q5⟩ := z
        exact ⟨p1, p2, dx, vs, p3, q4, rL _ _ q5⟩
      | fK o kvs =>
        obtain ⟨p1, p2, dx, vs, p3, q4, q5⟩ := z
        exact ⟨p1, p2, dx, vs, p3, q4, rL _ _ q5⟩
      | xd c fs =>
        obtain ⟨p1, vs, p2, p3, p4⟩ := z
        exact ⟨p1, vs, p2, p3, rL _ _ p4⟩
      | gone => trivial
    · have hl2 := (List.getElem?_eq_some_iff.mp h1').1
      have hl3 : (w.α ++ [p]).length = w.α.length + 1 := by simp
      have he : n = w.α.length := by omega
      rw [he] at h1'
      rw [he, g1.len] at h2
      simp at h1' h2
      subst h1' h2
      exact ⟨hB, L, hH, rL _ _ r⟩
  · rcases List.mem_append.mp hx with z | z
    · exact g1.hd x z
    · rw [List.mem_singleton.mp z]
      show w.H p ≠ none
      rw [hH]
      intro z
      cases z
theorem pe_lcM {X : Cx} {elt tg iter : Expr} {ifs : List Expr} {scope : Scope} {own : List (Str × Nat)} {pos : Pos} {wi : TI} {g : TG} {tt : TT} {te : TE} (hc : X.calm = true) (hN : X.N.Nodup) (hi : PI X tg iter wi) (ok : BlkOk X.N X.env.scope scope own)
    (hg : ∀ (s : Shared) (H : Hp) (C : Addr) (cl : List (Str × Addr)) (fp : List Addr), PG (X.blk s H scope (compEnvC scope cl C X.env) fp) tg g) (ht : ∀ (s : Shared) (H : Hp) (C : Addr) (cl : List (Str × Addr)) (fp : List Addr), PTs (X.blk s H scope (compEnvC scope cl C X.env) fp) ifs tt)
    (he : ∀ (s : Shared) (H : Hp) (C : Addr) (cl : List (Str × Addr)) (fp : List Addr), PE (X.blk s H scope (compEnvC scope cl C X.env) fp) elt te) (hs : ∀ x, foldedSetIterable iter X.env x = pure x := by intro _; rfl) :
    PE X (.ListComp elt [⟨tg, iter, ifs, 0⟩] scope pos) (tLcM wi g tt te (own.map (·.2))) := pe_lc hc hN hi ok hg ht he hs
end

end Z
namespace Z
open PySem PySem.Spec PyProof.Rows L2
section
variable {K : PySem.W.Frag} {W : WX} {ρ : Sl} {M : Mem} {Φ : D → Mem → Prop} {Ξ : XN} {ta te : TE} {tA : TA} {Δ : Ed} {w : Wd} {x y : D} {g : TG} {wi : TI} {tt : TT} {ts : TS}
theorem et_yes {Φ : Bool → Mem → Prop} (q : Φ true M) : ET K W tYes ρ M Φ Ξ := fun w σ Q g e x k => k true w M (Ext.refl w) g q
theorem bndL_map {n : Nat} {ds : List D} (h : ∀ d ∈ ds, d.bnd n = true) : bndL n ds = true := by
  induction ds with
  | nil => rfl
  | cons d ds ih =>
    unfold bndL
    rw [h d List.mem_cons_self, ih fun d hd => h d (List.mem_cons_of_mem _ hd)]
    rfl
theorem ew_const {v : V} {d : D} (h : ∀ w, Rep K w d v) (q : Φ d M) : EW K W (tC v) ρ M Φ Ξ := ew_val h q
theorem eqv_bool (i j : Bool) : PyData.eqv (.bool i) (.bool j) = (i == j) := by
  cases i <;> cases j <;> rfl
theorem dec_strV (i j : Str) : decide (V.str i = V.str j) = decide (i = j) := by
  simp
theorem oz_eqZI {i j : Int} (q : Φ (.bl (decide (i = j))) M) : OpZ K (rEqZ K) (.int i) (.int j) M Φ := oz_eqD (oz_eqI q)
theorem oz_neZI {i j : Int} (q : Φ (.bl (!decide (i = j))) M) : OpZ K (rNeZ K) (.int i) (.int j) M Φ := oz_neD (oz_neI q)
theorem oz_eqZB {i j : Bool} (q : Φ (.bl (i == j)) M) : OpZ K (rEqZ K) (.bl i) (.bl j) M Φ := oz_eqD (oz_eq (a := .bool i) (b := .bool j) rfl rfl rfl rfl (eqv_bool i j) q)
theorem oz_neZB {i j : Bool} (q : Φ (.bl (!(i == j))) M) : OpZ K (rNeZ K) (.bl i) (.bl j) M Φ := oz_neD (oz_ne (a := .bool i) (b := .bool j) rfl rfl rfl rfl (eqv_bool i j) q)
theorem oz_eqZS {i j : Str} (q : Φ (.bl (decide (i = j))) M) : OpZ K (rEqZ K) (.str i) (.str j) M Φ := fun w v u Q g r1 r2 k => by
  cases (show v = V.str i from r1)
  cases (show u = V.str j from r2)
  exact .inr (.inr (.inr (.inl ⟨rfl, k _ w (.bl (decide (i = j))) M (Ext.refl w) g (by rw [dec_strV]; rfl) q⟩)))
theorem oz_neZS {i j : Str} (q : Φ (.bl (!decide (i = j))) M) : OpZ K (rNeZ K) (.str i) (.str j) M Φ := fun w v u Q g r1 r2 k => by
  cases (show v = V.str i from r1)
  cases (show u = V.str j from r2)
  exact .inr (.inr (.inr (.inl ⟨rfl, k _ w (.bl (!decide (i = j))) M (Ext.refl w) g (by rw [dec_strV]; rfl) q⟩)))
end
end Z
namespace Z
open PySem PySem.Spec PyProof.Rows L2


end Z
namespace Z
open PySem PySem.Spec PyProof.Rows L2

end Z
namespace Z
open PySem PySem.Spec PyProof.Rows L2

def rEqO (K : PySem.W.Frag) (C : Addr) (sp : Sp) (E : XK) : R2 := fun x y H Q => ∃ a dx fs b C' dy gs, x = .ref a ∧ y = .ref b ∧ H a = some (.ins C dx fs) ∧ H b = some (.ins C' dy gs) ∧ PySem.W.notFirst K C (.ref C') = true ∧ sp [x, y] H (fun v H2 => ∃ t : Bool, v = .bl t ∧ Q (.bl t) H2) E
theorem op_eqO {X : Cx} {C f : Addr} {k : Nat} {sp : Sp} {E : XK} (hs : PySem.W.findIn X.K (.ref C) "__eq__" = some (some (.ref f))) (hf : PySem.W.isFn X.K (.ref f) = true) (F : FnR X.prog X.w X.K X.mg X.base (L2.CX X.prog X.w) k f sp) (hr : Room k X.A) (hx : Passes (L2.CX X.prog X.w) X E) :
    OpR X (compareOp .Eq) (rEqO X.K C sp E) := by
  intro pins s σ H x y v u Q I rx ry h
  obtain ⟨a, dx, fs, b, C', dy, gs, rfl, rfl, ha, hb, hn, q⟩ := h
  cases (show v = Value.ref a from rx)
  cases (show u = Value.ref b from ry)
  obtain ⟨od, J⟩ := ins_at I ha
  obtain ⟨od', J'⟩ := ins_at I hb
  obtain ⟨m, hF⟩ := I.fr
  show wpAny _ _ (richCompare .Eq _ _) _ _ _
  refine PySem.W.cmp_K (op := .Eq) (tb := .ref C') hr.units0 hF I.ok.mod.kin J J'.type hn hs hf ?_
  refine wpAny_mono (wpAny_call (run_fnR (us := [.ref a, .ref b]) (vs := [.ref a, .ref b]) F hr hx I (.cons rfl (.cons rfl .nil)) q)) (fun z s' hz => ?_) fun _ _ y => y
  obtain ⟨z', H', I', rz, t, ez, qz⟩ := hz
  subst ez
  exact SlX.cmpback rz ⟨.bl t, H', I', rz, qz⟩
section
variable {K : PySem.W.Frag} {W : WX} {ρ : Sl} {M : Mem} {Φ : D → Mem → Prop} {Ξ : XN} {ta : TE} {S : DSp} {x y : D} {C : Addr}
theorem ew_prop (h : EW K W ta ρ M (fun x M1 => ∃ n fs, x = .ref n ∧ M1[n]? = some (.ins C fs) ∧ S [.ref n] M1 Φ NoX) Ξ) : EW K W (tProp C (spOf K S) [] E0 ta) ρ M Φ Ξ := fun w σ Q g e x k =>
  h w σ _ g e x fun v w1 d M1 e1 g1 r1 q1 => by
    obtain ⟨n, fs, ed, hm, q⟩ := q1
    subst ed
    obtain ⟨a, ha, rfl⟩ := id r1
    obtain ⟨_, dx, kv, hH, _⟩ := g1.own n a _ ha hm
    exact ⟨a, dx, kv, rfl, hH, sp_run (ds := [.ref n]) g1 ⟨.ref a, [], rfl, ⟨a, ha, rfl⟩, rfl⟩ q fun v w3 d M3 e3 => k v w3 d M3 (e1.trans e3)⟩
theorem oz_eqO {n m : Nat} {C' : Addr} {fs gs : List (Str × D)} (h1 : M[n]? = some (.ins C fs)) (h2 : M[m]? = some (.ins C' gs)) (hn : PySem.W.notFirst K C (.ref C') = true) (h : S [.ref n, .ref m] M (fun d M' => ∃ t : Bool, d = .bl t ∧ Φ (.bl t) M') NoX) : OpZ K (rEqO K C (spOf K S) E0) (.ref n) (.ref m) M Φ := fun w v u Q g r1 r2 k => by
  obtain ⟨a, ha, rfl⟩ := id r1
  obtain ⟨b, hb, rfl⟩ := id r2
  obtain ⟨_, dx, kv, hH, _⟩ := g.own n a _ ha h1
  obtain ⟨_, dy, kw, hH2, _⟩ := g.own m b _ hb h2
  refine ⟨a, dx, kv, b, C', dy, kw, rfl, rfl, hH, hH2, hn, sp_run (ds := [.ref n, .ref m]) g ⟨.ref a, [.ref b], rfl, r1, RepL.one r2⟩ h fun v w' d M' e g' r' q => ?_⟩
  obtain ⟨t, ed, q⟩ := q
  subst ed
  exact ⟨t, r', k (.bl t) w' (.bl t) M' e g' rfl q⟩
end
end Z
namespace Z
open PySem PySem.Spec PyProof.Rows L2

def WkG (n0 : Nat) (P : List D → Mem → Prop) (acc : List D) (M : Mem) : Prop := P acc M ∨ ∃ n, n0 ≤ n ∧ (∀ m ∈ M.take n, m.bnd n = true) ∧ bndL n acc = true ∧ P acc (M.take n)
section
variable {K : PySem.W.Frag} {W : WX} {ρ : Sl} {M : Mem} {Ξ : XN} {te : TE} {tA : TA} {Δ : Ed} {wi : TI} {g : TG} {tb : TS}
theorem WkG.run {w0 w : Wd} {n0 : Nat} {P : List D → Mem → Prop} {acc : List D} {M : Mem} (h : WkG n0 P acc M) (e : Ext w0 w) (hn : w0.α.length ≤ n0) (g : GM K w M) :
    ∃ w' M', w'.H = w.H ∧ w'.B = w.B ∧ ((∃ n, w' = w.cut n ∧ bndL n acc = true) ∨ w' = w) ∧ Ext w0 w' ∧ GM K w' M' ∧ P acc M' := by
  rcases h with h | ⟨n, h1, h3, hb, p⟩
  · exact ⟨w, M, rfl, rfl, .inr rfl, e, g, h⟩
  · exact ⟨w.cut n, _, rfl, rfl, .inl ⟨n, rfl, hb⟩, ext_cut e (Nat.le_trans hn h1), g.cut h3, p⟩
theorem ew_lcG {tt : TT} {te : TE} {vs : List Nat} {Φ : D → Mem → Prop} (hg : WpOK g vs)
    (h : IW K W wi ρ M (fun ds G M1 => ∃ Iv : Nat → List D → Mem → Prop, Iv 0 [] M1 ∧ (∀ i acc M', Iv i acc M' → G M' ∧ acc.length < sizeLine) ∧
      (∀ i d acc M', ds[i]? = some d → Iv i acc M' → GW K g d (wipeZ ρ vs) M' fun ρ2 M2 => ET K W0 tt ρ2 M2 (fun b M3 => (b = true → EW K W0 te ρ2 M3 (fun y M4 => WkG M1.length (Iv (i + 1)) (acc ++ [y]) M4) Ξ0) ∧ (b = false → WkG M1.length (Iv (i + 1)) acc M3)) Ξ0) ∧
      ∀ acc M', Iv ds.length acc M' → Φ (.lst acc) M') Ξ) : EW K W (tLc wi g tt te vs) ρ M Φ Ξ := fun w σ Q gm e ok =>
  fun k => h w σ _ gm e ok fun J w1 ds G M1 e1 g1 jz ⟨Iv, i0, iG, turn, fin⟩ => by
    intro p hD
    obtain ⟨hB, hA⟩ := g1.free hD
    have hn : w1.α.length ≤ M1.length := Nat.le_of_eq g1.len
    refine ⟨fun i m H => m = ds.length - i ∧ i ≤ ds.length ∧ ∃ w' M' acc L, w'.H = H ∧ Ext (w1.sw p (.lst L)) w' ∧ GM K w' M' ∧ w'.H p = some (.lst L) ∧ RepL K w' acc L ∧ Iv i acc M', ⟨ds.length, rfl, Nat.zero_le _, w1.sw p (.lst []), M1, [], [], rfl, Ext.refl _, g1.sw hB hA, upd_same, rfl, i0⟩, ?_⟩
    rintro i m H ⟨rfl, hi, w', M', acc, L, rfl, e', g', hp, rl, inv⟩
    have jz' : JZ K J ds (w1.sw p (.lst L)) G := fun i w' M' a b c => jz i w' M' ((show Ext w1 (w1.sw p (.lst L)) from ⟨Same.refl _, ⟨[], (List.append_nil _).symm⟩, fun a u h _ => by
      show upd w1.H p _ a = some u
      rw [upd_ne (ne_of_none h hD)]
      exact h, fun a u h => .inl h, fun a h => .inl h, fun a h => upd_st h⟩).trans a) b c
    obtain ⟨z1, z2⟩ := jz' i w' M' e' g' (iG _ _ _ inv).1
    by_cases hlt : i < ds.length
    · have hd : ds[i]? = some ds[i] := by simp [hlt]
      obtain ⟨go, step⟩ := z1 _ hd
      refine .inr ⟨go, fun H2 => ∃ w2 M2 acc L, w2.H = H2 ∧ Ext (w1.sw p (.lst L)) w2 ∧ GM K w2 M2 ∧ w2.H p = some (.lst L) ∧ RepL K w2 acc L ∧ Iv (i + 1) acc M2, fun H2 ⟨w2, M2, acc, L, a, b, c, d, f, u⟩ => ⟨ds.length - (i + 1), by omega, rfl, hlt, w2, M2, acc, L, a, b, c, d, f, u⟩, fun x H' y => ?_⟩
      obtain ⟨w2, rfl, e2, g2, rx⟩ := step x H' y
      have hpw : ∀ {u : Wd}, Ext (w1.sw p (.lst L)) u → u.H p = some (.lst L) := fun {u} q => q.fr p _ upd_same hA
      have eσ : RepE K w1 ρ σ := e.mono e1
      have eσ2 : RepE K w2 (wipeZ ρ vs) (wipe σ vs) := wipeZ_rep ((eσ.sw (p := p) (o := .lst L)).mono (e'.trans e2)) vs
      have back : ∀ {Q : L2.St → Hp → Prop}, g x (wipe σ vs) w2.H Q → g x (wipe σ vs) w2.H fun σ2 H2 => wipe σ2 vs = wipe σ vs ∧ Q σ2 H2 := fun {Q} q => by
        have z := hg x (wipe σ vs) w2.H Q q
        rw [wipe_wipe] at z
        exact z
      refine back (turn i _ acc M' hd inv w2 (wipe σ vs) x _ g2 eσ2 rx fun ρ3 M3 σ3 w3 e3 g3 r3 sw => ?_)
      refine sw w3 σ3 _ g3 r3 xok0 fun b w4 M4 e4 g4 q4 => ?_
      have e04 : Ext (w1.sw p (.lst L)) w4 := ((e'.trans e2).trans e3).trans e4
      have lsz := (iG _ _ _ inv).2
      cases b with
      | true =>
        refine iteT (q4.1 rfl w4 σ3 _ g4 (r3.mono e4) xok0 fun yv w5 yd M5 e5 g5 r5 q5 => ?_)
        have e05 := e04.trans e5
        obtain ⟨oB, oA⟩ := sw_out hB hA e05
        have rl5 : RepL K w5 acc L := RepL.mono (((e2.trans e3).trans e4).trans e5) _ _ rl
        refine ⟨L, hpw e05, by rw [← rl5.length]; exact lsz, ?_⟩
        have rl6 : RepL K (w5.sw p (.lst (L ++ [yv]))) (acc ++ [yd]) (L ++ [yv]) := RepL.append (RepL.sameBα (w := w5) rfl rfl rl5) (RepL.sameBα (w := w5) rfl rfl (RepL.one r5))
        have e06 : Ext (w1.sw p (.lst (L ++ [yv]))) (w5.sw p (.lst (L ++ [yv]))) := ext_sw e05
        obtain ⟨w7, M7, a1, a2, a3, a4, a5, a6⟩ := q5.run e06 hn (g5.sw oB oA)
        refine ⟨w7, M7, acc ++ [yd], L ++ [yv], a1, a4, a5, by rw [a1]; exact upd_same, ?_, a6⟩
        rcases a3 with ⟨n, h2, hb⟩ | h2
        · subst h2
          exact RepL.cut _ _ rl6 hb
        · subst h2
          exact rl6
      | false =>
        refine iteF ?_
        have rl4 : RepL K w4 acc L := RepL.mono ((e2.trans e3).trans e4) _ _ rl
        obtain ⟨w7, M7, a1, a2, a3, a4, a5, a6⟩ := (q4.2 rfl).run e04 hn g4
        refine ⟨w7, M7, acc, L, a1, a4, a5, by rw [a1]; exact hpw e04, ?_, a6⟩
        rcases a3 with ⟨n, h2, hb⟩ | h2
        · subst h2
          exact RepL.cut _ _ rl4 hb
        · subst h2
          exact rl4
    · have he : i = ds.length := by omega
      subst he
      refine .inl ⟨z2 rfl, ?_⟩
      obtain ⟨oB, oA⟩ := sw_out hB hA e'
      have ef : Ext w1 ⟨upd w'.B p (.lst L), w'.α, w'.H⟩ := ext_fin hD hB e'
      have eg : GM K ⟨upd w'.B p (.lst L), w'.α, w'.H⟩ M' := by
        refine ⟨fun a u h => ?_, g'.len, g'.nd, fun n a m h1 h2 => ?_, g'.hd⟩
        · have h' : upd w'.B p (.lst L) a = some u := h
          by_cases ha : a = p
          · subst ha
            rw [upd_same] at h'
            cases h'
            exact hp
          · rw [upd_ne ha] at h'
            exact g'.sub a u h'
        · have hne : a ≠ p := fun z => oA (z ▸ List.mem_of_getElem? h1)
          have gB : Same w'.B (upd w'.B p (.lst L)) := fun b u h => by
            rw [upd_ne (ne_of_none h oB)]
            exact h
          have z := g'.own n a m h1 h2
          have hBa : upd w'.B p (.lst L) a = w'.B a := upd_ne hne
          cases m with
          | lst ds =>
            obtain ⟨h1, vs, h2, h3⟩ := z
            exact ⟨hBa.trans h1, vs, h2, RepL.mono2 (w := w') (w' := ⟨upd w'.B p (.lst L), w'.α, w'.H⟩) gB ⟨[], (List.append_nil _).symm⟩ _ _ h3⟩
          | dT kvs =>
            obtain ⟨h1, vs, h2, h3, h4⟩ := z
            exact ⟨hBa.trans h1, vs, h2, h3, RepL.mono2 (w := w') (w' := ⟨upd w'.B p (.lst L), w'.α, w'.H⟩) gB ⟨[], (List.append_nil _).symm⟩ _ _ h4⟩
          | dK kvs =>
            obtain ⟨h1, vs, h2, h3, h4⟩ := z
            exact ⟨hBa.trans h1, vs, h2, h3, RepL.mono2 (w := w') (w' := ⟨upd w'.B p (.lst L), w'.α, w'.H⟩) gB ⟨[], (List.append_nil _).symm⟩ _ _ h4⟩
          | ins C fs =>
            obtain ⟨h1, dx, vs, h2, h3, h4⟩ := z
            exact ⟨hBa.trans h1, dx, vs, h2, h3, RepL.mono2 (w := w') (w' := ⟨upd w'.B p (.lst L), w'.α, w'.H⟩) gB ⟨[], (List.append_nil _).symm⟩ _ _ h4⟩
          | fT o kvs =>
            obtain ⟨h1, h2, dx, vs, h3, q4, q5⟩ := z
            exact ⟨hBa.trans h1, h2, dx, vs, h3, q4, RepL.mono2 (w := w') (w' := ⟨upd w'.B p (.lst L), w'.α, w'.H⟩) gB ⟨[], (List.append_nil _).symm⟩ _ _ q5⟩
          | fK o kvs =>
            obtain ⟨h1, h2, dx, vs, h3, q4, q5⟩ := z
            exact ⟨hBa.trans h1, h2, dx, vs, h3, q4, RepL.mono2 (w := w') (w' := ⟨upd w'.B p (.lst L), w'.α, w'.H⟩) gB ⟨[], (List.append_nil _).symm⟩ _ _ q5⟩
          | xd c fs =>
            obtain ⟨h1, vs, h2, h3, h4⟩ := z
            exact ⟨h1, vs, h2, h3, RepL.mono2 (w := w') (w' := ⟨upd w'.B p (.lst L), w'.α, w'.H⟩) gB ⟨[], (List.append_nil _).symm⟩ _ _ h4⟩
          | gone => trivial
      refine k (.ref p) ⟨upd w'.B p (.lst L), w'.α, w'.H⟩ (.lst acc) M' (e1.trans ef) eg ⟨p, L, rfl, upd_same, ?_⟩ (fin acc M' inv)
      exact RepL.mono2 (w := w') (w' := ⟨upd w'.B p (.lst L), w'.α, w'.H⟩) (fun b u h => by
        show upd w'.B p (.lst L) b = some u
        rw [upd_ne (ne_of_none h oB)]
        exact h) ⟨[], (List.append_nil _).symm⟩ _ _ rl
end

mutual
def xp (M : Mem) : D → D
  | .ref h => match M[h]? with
    | some (.lst ds) => .lst ds
    | _ => .ref h
  | .tup ds => .tup (xpL M ds)
  | .kt ds => .kt (xpL M ds)
  | .lst ds => .lst (xpL M ds)
  | .fz ds => .fz (xpL M ds)
  | .non => .non
  | .bl b => .bl b
  | .int i => .int i
  | .str s => .str s
  | .glo a => .glo a
  | .ty n => .ty n
  | .dk kvs => .dk kvs
def xpL (M : Mem) : List D → List D
  | [] => []
  | d :: ds => xp M d :: xpL M ds
end
def xpN (M : Mem) : Nat → D → D
  | 0, d => d
  | n + 1, d => xpN M n (xp M d)
def Wd.all (w : Wd) : Wd := ⟨w.H, w.α, w.H⟩
section
variable {K : PySem.W.Frag} {w : Wd} {M : Mem} {Φ : D → Mem → Prop}
theorem Rep.all (g : GM K w M) {d : D} {v : V} (r : Rep K w d v) : Rep K w.all d v := Rep.mono2 (w := w) (w' := w.all) g.sub ⟨[], (List.append_nil _).symm⟩ d v r
theorem RepL.all (g : GM K w M) {d : List D} {v : List V} (r : RepL K w d v) : RepL K w.all d v := RepL.mono2 (w := w) (w' := w.all) g.sub ⟨[], (List.append_nil _).symm⟩ d v r
mutual
theorem xp_rep (g : GM K w M) : ∀ (d : D) (v : V), Rep K w.all d v → Rep K w.all (xp M d) v
  | .non, _, r => r
  | .bl _, _, r => r
  | .int _, _, r => r
  | .str _, _, r => r
  | .glo _, _, r => r
  | .ty _, _, r => r
  | .dk _, _, r => r
  | .ref h, v, r => by
    unfold xp
    cases hm : M[h]? with
    | none => exact r
    | some o =>
      cases o with
      | lst ds =>
        obtain ⟨a, ha, rfl⟩ := r
        obtain ⟨_, vs, h1, h2⟩ := g.own h a _ ha hm
        exact ⟨a, vs, rfl, h1, h2.all g⟩
      | dT _ => exact r
      | dK _ => exact r
      | ins _ _ => exact r
      | fT _ _ => exact r
      | fK _ _ => exact r
      | xd _ _ => exact r
      | gone => exact r
  | .tup ds, _, r => by
    obtain ⟨a, vs, hv, hs, hr⟩ := r
    exact ⟨a, vs, hv, hs, xpL_rep g ds vs hr⟩
  | .kt ds, _, r => by
    obtain ⟨a, vs, hv, hs, hr⟩ := r
    exact ⟨a, vs, hv, hs, xpL_rep g ds vs hr⟩
  | .lst ds, _, r => by
    obtain ⟨a, vs, hv, hs, hr⟩ := r
    exact ⟨a, vs, hv, hs, xpL_rep g ds vs hr⟩
  | .fz ds, _, r => by
    obtain ⟨a, vs, hv, hs, hr⟩ := r
    exact ⟨a, vs, hv, hs, xpL_rep g ds vs hr⟩
theorem xpL_rep (g : GM K w M) : ∀ (ds : List D) (vs : List V), RepL K w.all ds vs → RepL K w.all (xpL M ds) vs
  | [], _, r => r
  | d :: ds, _, r => by
    obtain ⟨v, us, hv, h1, h2⟩ := r
    exact ⟨v, us, hv, xp_rep g d v h1, xpL_rep g ds us h2⟩
end
theorem xpN_rep (g : GM K w M) {v : V} : ∀ (n : Nat) (d : D), Rep K w.all d v → Rep K w.all (xpN M n d) v
  | 0, _, r => r
  | n + 1, d, r => xpN_rep g n (xp M d) (xp_rep g d v r)
theorem pdN_rep (n : Nat) {d : D} {v : V} {a : PyData} (g : GM K w M) (r : Rep K w d v) (e : pd (xpN M n d) = some a) : Dp K w.H v a :=
  pd_rep (w := w.all) (K := K) (Same.refl _) _ v a (xpN_rep g n d (r.all g)) e
theorem oz_eqX (n m : Nat) {x y : D} {a b : PyData} {t : Bool} (hx : pd (xpN M n x) = some a) (hy : pd (xpN M m y) = some b) (sa : SeqAt.shaped a = true) (sb : SeqAt.shaped b = true) (ht : PyData.eqv a b = t) (q : Φ (.bl t) M) : OpZ K (rEqZ K) x y M Φ := oz_eqD fun w v u Q g r1 r2 k =>
  ⟨a, b, pdN_rep n g r1 hx, pdN_rep m g r2 hy, sa, sb, by rw [ht]; exact k _ w (.bl t) M (Ext.refl w) g rfl q⟩
theorem oz_neX (n m : Nat) {x y : D} {a b : PyData} {t : Bool} (hx : pd (xpN M n x) = some a) (hy : pd (xpN M m y) = some b) (sa : SeqAt.shaped a = true) (sb : SeqAt.shaped b = true) (ht : PyData.eqv a b = t) (q : Φ (.bl (!t)) M) : OpZ K (rNeZ K) x y M Φ := oz_neD fun w v u Q g r1 r2 k =>
  ⟨a, b, pdN_rep n g r1 hx, pdN_rep m g r2 hy, sa, sb, by rw [ht]; exact k _ w (.bl (!t)) M (Ext.refl w) g rfl q⟩
end

def perm {α : Type} : List Nat → List α → List α
  | [], _ => []
  | i :: ix, ws => match ws[i]? with
    | some x => x :: perm ix ws
    | none => perm ix ws
theorem perm_vals {zs : List V} {ws : List Value} (r : Vals zs ws) : ∀ ix, Vals (perm ix zs) (perm ix ws)
  | [] => .nil
  | i :: ix => by
    have ih := perm_vals r ix
    unfold perm
    cases h : zs[i]? with
    | none =>
      have hl := r.length
      have h2 : ws[i]? = none := by
        rw [List.getElem?_eq_none_iff] at h ⊢
        omega
      rw [h2]
      exact ih
    | some x =>
      obtain ⟨u, hu, ru⟩ := r.get h
      rw [hu]
      exact .cons ru ih
theorem perm_rep {K : PySem.W.Frag} {w : Wd} {zs : List D} {ws : List V} (r : RepL K w zs ws) : ∀ ix, RepL K w (perm ix zs) (perm ix ws)
  | [] => rfl
  | i :: ix => by
    have ih := perm_rep r ix
    unfold perm
    cases h : zs[i]? with
    | none =>
      have hl := r.length
      have h2 : ws[i]? = none := by
        rw [List.getElem?_eq_none_iff] at h ⊢
        omega
      rw [h2]
      exact ih
    | some x =>
      obtain ⟨u, hu, ru⟩ := r.get h
      rw [hu]
      exact ⟨u, _, rfl, ru, ih⟩
section
variable {K : PySem.W.Frag} {x qual : Str} {params : Arguments} {body : List Stmt} {scope : Scope} {kws : List (Str × V)} {f : Addr} {fd : FuncData} {ps : List Str}
theorem FunD.kbindsN (F : FunD K x qual params body scope [] kws f fd) (n : Nat) (ks : List Str) (ix : List Nat)
    (h : ∀ (kV doc pm : Value) (an : Option Addr) (cdv ct : Value) (us ws : List Value), us.length = n → ws.length = ks.length → bindArgs (PySem.W.fnOf x qual params body scope .none kV doc pm an cdv ct) ⟨us, ks.zip ws⟩ = pure (ps.zip (us ++ perm ix ws))) :
    KBn K fd ps n ks (fun us ws => us ++ perm ix ws) (fun vs zs => vs ++ perm ix zs) := by
  obtain ⟨oc, od, dV, kV, doc, pm, an, cdv, ct, osl, rfl, lk, hcd, hD, hK⟩ := F.ex
  rcases hD with ⟨_, rfl⟩ | ⟨e, _⟩
  · exact ⟨fun s us ws X l1 l2 => BindsTo.of_eq (h kV doc pm an cdv ct us ws l1 l2), fun r1 r2 => r1.append (perm_vals r2 ix)⟩
  · exact absurd rfl e
end
section
variable {K : PySem.W.Frag} {W : WX} {ρ : Sl} {M : Mem} {Φ : D → Mem → Prop} {Ξ : XN} {tA tK : TA}
theorem ew_makeN {C : Addr} {S : DSp} {Ef : XK} {n m : Nat} {ix : List Nat}
    (hE : ∀ w0 σ0, XOK K W w0 Ξ → RepE K w0 ρ σ0 → ∀ cls fo w' M' d, Ext w0 w' → (∀ a, d = some a → w0.H a = none) → GM K w' M' → XdAt K w' d fo → Ξ cls fo ρ M' → Ef cls d w'.H)
    (h : EA K W tA ρ M (fun ds M1 => ds.length = n ∧ EA K W tK ρ M1 (fun es M2 => es.length = m ∧ S ((.ref M2.length :: ds) ++ perm ix es) (M2 ++ [.ins C []]) (fun d M3 => d = .non ∧ Φ (.ref M2.length) M3) (fun c fo M' => Ξ c fo ρ M')) Ξ) Ξ) :
    EW K W (tMakeN C n m (spOf K S) (fun vs zs => vs ++ perm ix zs) Ef tA tK) ρ M Φ Ξ := by
  intro w σ Q g e x k
  refine h w σ _ g e x fun vs w0 ds M0 e0 g0 r0 q0 => ?_
  obtain ⟨l0, q0⟩ := q0
  refine q0 w0 σ _ g0 (e.mono e0) (x.mono e0) fun zs w1 es M1 e1' g1 r1 q => ?_
  obtain ⟨l1, q⟩ := q
  refine ⟨by rw [← r0.length]; exact l0, by rw [← r1.length]; exact l1, ?_⟩
  have e1 := e0.trans e1'
  intro a dx ha hdx hne
  have gd : GM K ⟨w1.B, w1.α, upd w1.H dx (.own a)⟩ M1 := g1.sw (g1.free hdx).1 (g1.free hdx).2
  have ed : Ext w1 ⟨w1.B, w1.α, upd w1.H dx (.own a)⟩ := ext_new g1 hdx
  have ha2 : (⟨w1.B, w1.α, upd w1.H dx (.own a)⟩ : Wd).H a = none := by
    show upd w1.H dx _ a = none
    rw [upd_ne (Ne.symm hne)]
    exact ha
  have g2 := gd.addM (o := .ins C dx []) (m := .ins C []) ha2 ⟨(gd.free ha2).1, dx, [], upd_same, rfl, rfl⟩
  have e2 := ed.trans (ext_addM (o := .ins C dx []) gd ha2)
  refine ⟨Wd.addM ⟨w1.B, w1.α, upd w1.H dx (.own a)⟩ a (.ins C dx []), M1 ++ [.ins C []], (.ref M1.length :: ds) ++ perm ix es, _, _, rfl, g2, RepL.append ⟨.ref a, vs, rfl, ⟨a, addM_get gd, rfl⟩, RepL.mono (e1'.trans e2) _ _ r0⟩ (perm_rep (RepL.mono e2 _ _ r1) ix), q, ?_, ?_⟩
  · intro v w3 d M3 e3 g3 r3 hq
    obtain ⟨hd, q3⟩ := hq
    subst hd
    refine ⟨r3, k (.ref a) w3 (.ref M1.length) M3 ((e1.trans e2).trans e3) g3 ?_ q3⟩
    have r0 : Rep K (Wd.addM ⟨w1.B, w1.α, upd w1.H dx (.own a)⟩ a (.ins C dx [])) (.ref M1.length) (.ref a) := ⟨a, addM_get gd, rfl⟩
    exact Rep.mono e3 _ _ r0
  · intro cls fo w3 M3 d e3 fd g3 xd q3
    exact hE w σ x e cls fo w3 M3 d ((e1.trans e2).trans e3) (fun b z => (e1.trans e2).st b (fd b z)) g3 xd q3
end

theorem set_last {M : Mem} {o o' : MO} : (M ++ [o]).set M.length o' = M ++ [o'] := by
  rw [List.set_append_right _ _ (Nat.le_refl _), Nat.sub_self]
  rfl
theorem oz_eqNil {K : PySem.W.Frag} {M : Mem} {Φ : D → Mem → Prop} {x : D} {xs : List D} (hx : asL M x = some xs) (q : Φ (.bl xs.isEmpty) M) : OpZ K (rEqZ K) x (.lst []) M Φ := by
  cases xs with
  | nil => exact oz_eqD (oz_eq (a := .list []) (b := .list []) (t := true) (by unfold pdM; rw [hx]; rfl) rfl rfl rfl rfl q)
  | cons z zs => exact oz_eqLn hx rfl (by simp) q
theorem repF_look {K : PySem.W.Frag} {w : Wd} {f : Str} : ∀ {fs : List (Str × D)} {kv : List (Str × V)} {d : D}, RepF K w fs kv → fs.lookup f = some d → ∃ v, kv.lookup f = some v ∧ Rep K w d v
  | [], _, _, _, h => by cases h
  | (g, e) :: fs, kv, d, r, h => by
    obtain ⟨h1, h2⟩ := r
    cases kv with
    | nil => cases h1
    | cons p b =>
      obtain ⟨a1, a2⟩ := p
      simp only [List.map_cons, List.cons.injEq] at h1
      obtain ⟨rfl, h1⟩ := h1
      obtain ⟨v', r', e', h3, h4⟩ := h2
      simp only [List.map_cons, List.cons.injEq] at e'
      obtain ⟨rfl, rfl⟩ := e'
      simp only [List.lookup] at h ⊢
      cases hb : (f == g) with
      | true =>
        rw [hb] at h
        cases h
        exact ⟨_, rfl, h3⟩
      | false =>
        rw [hb] at h
        exact repF_look ⟨h1, h4⟩ h
section
variable {K : PySem.W.Frag} {W : WX} {ρ : Sl} {M : Mem} {Φ : D → Mem → Prop} {Ξ : XN} {ta : TE}
theorem ew_fldL {f : Str} (h : EW K W ta ρ M (fun x M1 => ∃ (n : Nat) (C : Addr) (fs : List (Str × D)) (d : D), x = .ref n ∧ M1[n]? = some (.ins C fs) ∧ Cls K C ∧ NoAttr K C f ∧ fs.lookup f = some d ∧ Φ d M1) Ξ) : EW K W (tFld K ta f) ρ M Φ Ξ := fun w σ Q g e x k =>
  h w σ _ g e x fun v w1 d M1 e1 g1 r1 ⟨n, C, fs, d', ed, hm, hC, hN, hi, q⟩ => by
    subst ed
    obtain ⟨a, ha, rfl⟩ := r1
    obtain ⟨_, dx, kv, hH, hF⟩ := g1.own n a _ ha hm
    obtain ⟨u, hu, ru⟩ := repF_look hF hi
    exact ⟨a, C, dx, kv, u, rfl, hH, hC, hN, hu, k u w1 d' M1 e1 g1 ru q⟩
end
def insB (K : PySem.W.Frag) (C : Str) : Bool := He.eqO (PySem.W.findIn K (.ref (He.ga K C)) "__class__") (some (some (.builtin "object.__class__"))) && (He.eqO (PySem.W.specialIn K (.builtin "object.__class__") "__get__") (some (some (.builtin "getset_descriptor.__get__"))) &&
  (decide (PySem.W.takesIn K (.builtin "object.__class__") = some true) && decide (PySem.W.mroIn K (He.ga K C) (.type "object") = some true)))
structure InsC (K : PySem.W.Frag) (C : Addr) : Prop where
  ha : PySem.W.findIn K (.ref C) "__class__" = some (some (.builtin "object.__class__"))
  hn : PySem.W.specialIn K (.builtin "object.__class__") "__get__" = some (some (.builtin "getset_descriptor.__get__"))
  htk : PySem.W.takesIn K (.builtin "object.__class__") = some true
  hm : PySem.W.mroIn K C (.type "object") = some true
theorem insB_ok {K : PySem.W.Frag} {C : Str} (h : insB K C = true) : InsC K (He.ga K C) := by
  obtain ⟨h1, h⟩ := He.ba h
  obtain ⟨h2, h⟩ := He.ba h
  obtain ⟨h3, h4⟩ := He.ba h
  exact ⟨He.eqO_ok h1, He.eqO_ok h2, of_decide_eq_true h3, of_decide_eq_true h4⟩
theorem kit_same {K : PySem.W.Frag} {t : Value} : PySem.W.kitOne K t t = some true := if_pos (by exact beq_self_eq_true t)
section
variable {K : PySem.W.Frag} {W : WX} {ρ : Sl} {M : Mem} {Φ : D → Mem → Prop} {Ξ : XN} {te : TE} {wi : TI} {g : TG} {tt : TT}
theorem cz_isiO {n : Nat} {C : Addr} {fs : List (Str × D)} {c : V} {d : D} {u : Value} {b : Bool} (hm : M[n]? = some (.ins C fs)) (cl : Cls K C) (ic : InsC K C) (hc : ClsV c u) (hr : ∀ w v, Rep K w d v → v = c) (hk : PySem.W.kitOne K (.ref C) u = some b) (q : Φ (.bl b) M) : CbZ K (rIsi K) [.ref n, d] M Φ := fun w vs Q g r k => by
  obtain ⟨v, u2, rfl, rv, ru⟩ := repL2 r
  cases hr w u2 ru
  obtain ⟨a, ha, rfl⟩ := rv
  obtain ⟨_, dx, kv, hH, _⟩ := g.own n a _ ha hm
  exact ⟨.ref a, c, .ref C, u, b, rfl, hc, .base (.ins hH cl ic.ha ic.hn ic.htk ic.hm), hk, k _ w (.bl b) M (Ext.refl w) g rfl q⟩
theorem cz_isiS {n : Nat} {C : Addr} {fs : List (Str × D)} (hm : M[n]? = some (.ins C fs)) (cl : Cls K C) (ic : InsC K C) (q : Φ (.bl true) M) : CbZ K (rIsi K) [.ref n, .glo C] M Φ :=
  cz_isiO (c := .ref C) (u := .ref C) hm cl ic (.own C) (fun _ _ r => r) kit_same q
theorem cx_never {P : Program} {w : World} {st : List PySem.Env} {H : Hp} {s : Shared} {e : Value} {s' : Shared} (h : L2.CX P w st H s E0 e s') : False := by
  obtain ⟨_, _, _, _, _, _, _, _, _, _, _, _, z⟩ := h
  exact z
theorem pass_nox {X : Cx} : Passes (L2.CX X.prog X.w) X.nox E0 := fun _ _ _ _ _ _ _ h => (cx_never h).elim
def propB (K : PySem.W.Frag) (C m : Str) : Bool := He.eqO (PySem.W.findIn K (.ref (He.ga K C)) m) (some (some (.ref (He.ma K (He.ga K C) m)))) && (He.eqO (PySem.W.specialIn K (.ref (He.ma K (He.ga K C) m)) "__get__") (some (some (.builtin "property.__get__"))) &&
  (decide (PySem.W.takesIn K (.ref (He.ma K (He.ga K C) m)) = some true) && (match PySem.W.recIn K (He.ma K (He.ga K C) m) "property" with
    | some (.ref _ :: _) => true
    | _ => false)))
theorem propB_ok {K : PySem.W.Frag} {C m : Str} (h : propB K C m = true) : PropOf K (He.ga K C) m (He.ma K (He.ga K C) m) (He5.wf K (He.ga K C) "property" m) := by
  obtain ⟨h1, h⟩ := He.ba h
  obtain ⟨h2, h⟩ := He.ba h
  obtain ⟨h3, h4⟩ := He.ba h
  refine ⟨He.eqO_ok h1, He.eqO_ok h2, of_decide_eq_true h3, ?_⟩
  unfold He5.wf
  split at h4
  · rename_i f r e
    rw [e]
    exact ⟨r, rfl⟩
  · cases h4
end
end Z
namespace Z
open PySem PySem.Spec PyProof.Rows L2


section
variable {κ : Type} [DecidableEq κ]
def valD (kvs : List (κ × D)) (k : κ) : Option D := (kvs.find? fun kv => decide (kv.1 = k)).map (·.2)
def putDk (kvs : List (κ × D)) (k : κ) (v : D) : List (κ × D) :=
  if (kvs.any fun kv => decide (kv.1 = k)) = true then kvs.map (fun kv => if kv.1 = k then (kv.1, v) else kv) else kvs ++ [(k, v)]
def dropD (kvs : List (κ × D)) (k : κ) : List (κ × D) := kvs.filter fun kv => decide (kv.1 ≠ k)
theorem valD_cons {p : κ × D} {r : List (κ × D)} {k : κ} : valD (p :: r) k = if p.1 = k then some p.2 else valD r k := by
  unfold valD
  by_cases e : p.1 = k
  · simp [e]
  · simp [e]
end
section
variable {K : PySem.W.Frag} {w : Wd} {κ : Type} [DecidableEq κ]
theorem RepF.nil {kv : List (κ × V)} (h : RepF K w ([] : List (κ × D)) kv) : kv = [] := by
  obtain ⟨h1, _⟩ := h
  cases kv with
  | nil => rfl
  | cons a b => cases h1
theorem RepF.cons {p : κ × D} {r : List (κ × D)} {kv : List (κ × V)} (h : RepF K w (p :: r) kv) : ∃ v kv', kv = (p.1, v) :: kv' ∧ Rep K w p.2 v ∧ RepF K w r kv' := by
  obtain ⟨h1, h2⟩ := h
  cases kv with
  | nil => cases h1
  | cons a b =>
    obtain ⟨a1, a2⟩ := a
    simp only [List.map_cons, List.cons.injEq] at h1
    obtain ⟨e1, h1⟩ := h1
    obtain ⟨v', r', e', h3, h4⟩ := h2
    simp only [List.map_cons, List.cons.injEq] at e'
    obtain ⟨rfl, rfl⟩ := e'
    have e1' : p.1 = a1 := e1
    subst e1'
    exact ⟨_, _, rfl, h3, h1, h4⟩
theorem RepF.mk {p : κ × D} {v : V} {r : List (κ × D)} {kv : List (κ × V)} (h : Rep K w p.2 v) (h2 : RepF K w r kv) : RepF K w (p :: r) ((p.1, v) :: kv) :=
  ⟨by simp [h2.1], ⟨_, _, rfl, h, h2.2⟩⟩
theorem RepF.length {ds : List (κ × D)} {kv : List (κ × V)} (h : RepF K w ds kv) : ds.length = kv.length := by
  have := congrArg List.length h.1
  simpa using this
theorem RepF.append {ds es : List (κ × D)} {kv kw : List (κ × V)} (h : RepF K w ds kv) (h2 : RepF K w es kw) : RepF K w (ds ++ es) (kv ++ kw) :=
  ⟨by rw [List.map_append, List.map_append, h.1, h2.1], by rw [List.map_append, List.map_append]; exact RepL.append h.2 h2.2⟩
theorem repK_F : ∀ {kvs : List (Key × D)} {kv : List (Key × V)}, RepK K w kvs kv → RepF K w kvs kv
  | [], _, h => by rw [show _ = [] from h]; exact ⟨rfl, rfl⟩
  | (k, d) :: ds, _, h => by
    obtain ⟨v, r, rfl, h1, h2⟩ := h
    exact RepF.mk (p := (k, d)) h1 (repK_F h2)
def RepO (K : PySem.W.Frag) (w : Wd) : Option D → Option V → Prop
  | none, none => True
  | some d, some v => Rep K w d v
  | _, _ => False
theorem RepF.val : ∀ {kvs : List (κ × D)} {kv : List (κ × V)} (k : κ), RepF K w kvs kv → RepO K w (valD kvs k) (valV kv k)
  | [], _, k, h => by rw [RepF.nil h]; trivial
  | p :: ds, _, k, h => by
    obtain ⟨v, r, rfl, h1, h2⟩ := RepF.cons h
    rw [valD_cons]
    by_cases e : p.1 = k
    · rw [if_pos e, valV_pos (p := (p.1, v)) e]
      exact h1
    · rw [if_neg e, valV_neg (p := (p.1, v)) e]
      exact RepF.val k h2
theorem RepF.any : ∀ {kvs : List (κ × D)} {kv : List (κ × V)} (k : κ), RepF K w kvs kv → (kvs.any fun kv => decide (kv.1 = k)) = (kv.any fun kv => decide (kv.1 = k))
  | [], _, k, h => by rw [RepF.nil h]; rfl
  | p :: ds, _, k, h => by
    obtain ⟨v, r, rfl, h1, h2⟩ := RepF.cons h
    rw [List.any_cons, List.any_cons, RepF.any k h2]
theorem RepF.put {d : D} {v : V} (k : κ) (r : Rep K w d v) {kvs : List (κ × D)} {kv : List (κ × V)} (h : RepF K w kvs kv) : RepF K w (putDk kvs k d) (putK kv k v) := by
  unfold putDk putK
  rw [RepF.any k h]
  split
  · rename_i hh
    clear hh
    induction kvs generalizing kv with
    | nil => rw [RepF.nil h]; exact ⟨rfl, rfl⟩
    | cons p ds ih =>
      obtain ⟨u, z, rfl, h1, h2⟩ := RepF.cons h
      rw [List.map_cons, List.map_cons]
      by_cases e : p.1 = k
      · rw [if_pos e, if_pos e]
        exact RepF.mk (p := (p.1, d)) r (ih h2)
      · rw [if_neg e, if_neg e]
        exact RepF.mk h1 (ih h2)
  · exact RepF.append h (RepF.mk (p := (k, d)) r ⟨rfl, rfl⟩)
theorem RepF.drop (k : κ) : ∀ {kvs : List (κ × D)} {kv : List (κ × V)}, RepF K w kvs kv → RepF K w (dropD kvs k) (dropK kv k)
  | [], _, h => by rw [RepF.nil h]; exact ⟨rfl, rfl⟩
  | p :: ds, _, h => by
    obtain ⟨v, r, rfl, h1, h2⟩ := RepF.cons h
    have ih := RepF.drop k h2
    unfold dropD dropK at ih ⊢
    rw [List.filter_cons, List.filter_cons]
    by_cases e : p.1 = k
    · simp only [e, ne_eq, not_true_eq_false, decide_false, Bool.false_eq_true, if_false]
      exact ih
    · simp only [e, ne_eq, not_false_eq_true, decide_true, if_true]
      exact RepF.mk h1 ih
end

def dkD (M : Mem) : D → Option (List (Key × D))
  | .dk kvs => some kvs
  | .ref h => match M[h]? with
    | some (.dK kvs) => some kvs
    | _ => none
  | _ => none
def dtD (M : Mem) : D → Option (List (List Key × D))
  | .ref h => match M[h]? with
    | some (.dT kvs) => some kvs
    | some (.fT _ kvs) => some kvs
    | _ => none
  | _ => none
def keyOf : D → Option Key
  | .int i => some (.inl i)
  | .str z => some (.inr z)
  | _ => none
def keysOf : List D → Option (List Key)
  | [] => some []
  | d :: ds => match keyOf d, keysOf ds with
    | some a, some b => some (a :: b)
    | _, _ => none
def tkOf : D → Option (List Key)
  | .tup ds => keysOf ds
  | _ => none
section
variable {K : PySem.W.Frag} {w : Wd} {M : Mem}
theorem keyOf_rep {d : D} {v : V} {k : Key} (r : Rep K w d v) (e : keyOf d = some k) : v = kV k := by
  cases d with
  | int i => cases e; exact r
  | str i => cases e; exact r
  | _ => cases e
theorem dkD_rep {d : D} {v : V} {kvs : List (Key × D)} (g : GM K w M) (r : Rep K w d v) (e : dkD M d = some kvs) : ∃ a kv, v = .ref a ∧ w.H a = some (.dK kv) ∧ RepF K w kvs kv := by
  cases d with
  | dk xs =>
    cases e
    obtain ⟨a, vs, hv, hs, hr⟩ := r
    exact ⟨a, vs, hv, g.sub _ _ hs, repK_F hr⟩
  | ref h =>
    obtain ⟨a, ha, hv⟩ := r
    unfold dkD at e
    cases hm : M[h]? with
    | none =>
      simp only [hm] at e
      cases e
    | some o =>
      have z := g.own h a o ha hm
      simp only [hm] at e
      cases o with
      | dK xs =>
        cases e
        obtain ⟨_, vs, h1, h2⟩ := z
        exact ⟨a, vs, hv, h1, h2⟩
      | dT _ => cases e
      | lst _ => cases e
      | ins _ _ => cases e
      | fT _ _ => cases e
      | fK _ _ => cases e
      | xd _ _ => cases e
      | gone => cases e
  | _ => cases e
def GetD (M : Mem) (x y : D) (r : Option D) : Prop := (∃ kvs k, dkD M x = some kvs ∧ keyOf y = some k ∧ r = valD kvs k) ∨ ∃ kvs k, dtD M x = some kvs ∧ tkOf y = some k ∧ r = valD kvs k
theorem GetD.k {x y : D} {kvs : List (Key × D)} {k : Key} (hx : dkD M x = some kvs) (hy : keyOf y = some k) : GetD M x y (valD kvs k) := .inl ⟨kvs, k, hx, hy, rfl⟩
theorem GetD.t {x y : D} {kvs : List (List Key × D)} {k : List Key} (hx : dtD M x = some kvs) (hy : tkOf y = some k) : GetD M x y (valD kvs k) := .inr ⟨kvs, k, hx, hy, rfl⟩
end

def EPs (K : PySem.W.Frag) (W : WX) : List (TE × TE) → Sl → Mem → (List (Key × D) → Mem → Prop) → XN → Prop
  | [], _, M, Φ, _ => Φ [] M
  | (tk, tv) :: r, ρ, M, Φ, Ξ => EW K W tk ρ M (fun kd M1 => EW K W tv ρ M1 (fun d M2 => ∃ k, keyOf kd = some k ∧ EPs K W r ρ M2 (fun ps M3 => Φ ((k, d) :: ps) M3) Ξ) Ξ) Ξ
section
variable {K : PySem.W.Frag} {W : WX} {ρ : Sl} {Ξ : XN}
theorem EPs.run : ∀ {trs : List (TE × TE)} {M : Mem} {Φ : List (Key × D) → Mem → Prop}, EPs K W trs ρ M Φ Ξ → ∀ w σ (Q : List (V × V) → Hp → Prop), GM K w M → RepE K w ρ σ → XOK K W w Ξ →
    (∀ (ps : List (Key × D)) (kvs : List (Key × V)) w' M', Ext w w' → GM K w' M' → RepF K w' ps kvs → Φ ps M' → Q (kvs.map fun kv => (kV kv.1, kv.2)) w'.H) → tPairs trs σ w.H Q
  | [], M, Φ, h, w, σ, Q, g, e, x, k => k [] [] w M (Ext.refl w) g ⟨rfl, rfl⟩ h
  | (tk, tv) :: r, M, Φ, h, w, σ, Q, g, e, x, k => h w σ _ g e x fun kv w1 kd M1 e1 g1 r1 q1 => q1 w1 σ _ g1 (e.mono e1) (x.mono e1) fun v w2 d M2 e2 g2 r2 ⟨kk, hk, q2⟩ => by
    refine EPs.run q2 w2 σ _ g2 (e.mono (e1.trans e2)) (x.mono (e1.trans e2)) fun ps kvs w3 M3 e3 g3 r3 q3 => ?_
    cases keyOf_rep r1 hk
    exact k ((kk, d) :: ps) ((kk, v) :: kvs) w3 M3 ((e1.trans e2).trans e3) g3 (RepF.mk (p := (kk, d)) (Rep.mono e3 _ _ r2) r3) q3
theorem GM.fin {w' : Wd} {M' : Mem} {p : Addr} {o : HO} (g' : GM K w' M') (oB : w'.B p = none) (oA : p ∉ w'.α) (hp : w'.H p = some o) : GM K ⟨upd w'.B p o, w'.α, w'.H⟩ M' := by
  refine ⟨fun a u h => ?_, g'.len, g'.nd, fun n a m h1 h2 => ?_, g'.hd⟩
  · have h' : upd w'.B p o a = some u := h
    by_cases ha : a = p
    · subst ha
      rw [upd_same] at h'
      cases h'
      exact hp
    · rw [upd_ne ha] at h'
      exact g'.sub a u h'
  · have hne : a ≠ p := fun z => oA (z ▸ List.mem_of_getElem? h1)
    have gB : Same w'.B (upd w'.B p o) := fun b u h => by
      rw [upd_ne (ne_of_none h oB)]
      exact h
    have z := g'.own n a m h1 h2
    have hBa : upd w'.B p o a = w'.B a := upd_ne hne
    have rL : ∀ ds vs, RepL K w' ds vs → RepL K ⟨upd w'.B p o, w'.α, w'.H⟩ ds vs := RepL.mono2 (w := w') (w' := ⟨upd w'.B p o, w'.α, w'.H⟩) gB ⟨[], (List.append_nil _).symm⟩
    cases m with
    | lst ds =>
      obtain ⟨h1, vs, h2, h3⟩ := z
      exact ⟨hBa.trans h1, vs, h2, rL _ _ h3⟩
    | dT kvs =>
      obtain ⟨h1, vs, h2, h3, h4⟩ := z
      exact ⟨hBa.trans h1, vs, h2, h3, rL _ _ h4⟩
    | dK kvs =>
      obtain ⟨h1, vs, h2, h3, h4⟩ := z
      exact ⟨hBa.trans h1, vs, h2, h3, rL _ _ h4⟩
    | ins C fs =>
      obtain ⟨h1, dx, vs, h2, h3, h4⟩ := z
      exact ⟨hBa.trans h1, dx, vs, h2, h3, rL _ _ h4⟩
    | fT o kvs =>
      obtain ⟨h1, h2, dx, vs, h3, q4, q5⟩ := z
      exact ⟨hBa.trans h1, h2, dx, vs, h3, q4, rL _ _ q5⟩
    | fK o kvs =>
      obtain ⟨h1, h2, dx, vs, h3, q4, q5⟩ := z
      exact ⟨hBa.trans h1, h2, dx, vs, h3, q4, rL _ _ q5⟩
    | xd c fs =>
      obtain ⟨h1, vs, h2, h3, h4⟩ := z
      exact ⟨h1, vs, h2, h3, rL _ _ h4⟩
    | gone => trivial
end
end Z
namespace Z
open PySem PySem.Spec PyProof.Rows L2
end Z
namespace Z
open PySem PySem.Spec PyProof.Rows L2 Builtin


def keyD : Key → D
  | .inl i => .int i
  | .inr z => .str z


end Z
namespace Z
open PySem PySem.Spec PyProof.Rows L2

def sc0 : D → Bool
  | .non => true
  | .bl _ => true
  | .int _ => true
  | .str z => PyData.strOk z
  | _ => false
def dat : Nat → D → Bool
  | 0, d => sc0 d
  | k + 1, d => match d with
    | .tup ds => decide (ds.length < 1000) && ds.all (dat k)
    | .lst ds => decide (ds.length < 1000) && ds.all (dat k)
    | d => sc0 d
mutual
def pyd : D → PyData
  | .non => .none
  | .bl b => .bool b
  | .int i => .int i
  | .str s => .str s
  | .tup ds => .tuple (pydL ds)
  | .lst ds => .list (pydL ds)
  | .fz ds => .list (pydL ds)
  | .kt ds => .tuple (pydL ds)
  | .ref _ => .none
  | .glo _ => .none
  | .ty _ => .none
  | .dk _ => .none
def pydL : List D → List PyData
  | [] => []
  | d :: ds => pyd d :: pydL ds
end
theorem sc0_bnd {d : D} {n : Nat} (h : sc0 d = true) : d.bnd n = true := by
  cases d <;> first | rfl | cases h
theorem dat_succ {k : Nat} {d : D} (h : dat (k + 1) d = true) : sc0 d = true ∨ ∃ ds, (d = .tup ds ∨ d = .lst ds) ∧ ds.length < 1000 ∧ ∀ x ∈ ds, dat k x = true := by
  cases d with
  | tup ds => exact .inr ⟨ds, .inl rfl, of_decide_eq_true (He.ba h).1, List.all_eq_true.mp (He.ba h).2⟩
  | lst ds => exact .inr ⟨ds, .inr rfl, of_decide_eq_true (He.ba h).1, List.all_eq_true.mp (He.ba h).2⟩
  | non => exact .inl rfl
  | bl _ => exact .inl rfl
  | int _ => exact .inl rfl
  | str _ => exact .inl h
  | dk _ => cases h
  | ref _ => cases h
  | glo _ => cases h
  | ty _ => cases h
  | fz _ => cases h
  | kt _ => cases h
theorem dat_tup {k : Nat} {ds : List D} (h1 : ds.length < 1000) (h2 : ∀ x ∈ ds, dat k x = true) : dat (k + 1) (.tup ds) = true := by
  show (decide (ds.length < 1000) && ds.all (dat k)) = true
  rw [decide_eq_true h1, List.all_eq_true.mpr h2]
  rfl
theorem dat_lst {k : Nat} {ds : List D} (h1 : ds.length < 1000) (h2 : ∀ x ∈ ds, dat k x = true) : dat (k + 1) (.lst ds) = true := by
  show (decide (ds.length < 1000) && ds.all (dat k)) = true
  rw [decide_eq_true h1, List.all_eq_true.mpr h2]
  rfl
theorem dat_sc0 {d : D} (h : sc0 d = true) : ∀ k, dat k d = true
  | 0 => h
  | k + 1 => by
    cases d <;> first | exact h | cases h
theorem dat_up : ∀ {k : Nat} {d : D}, dat k d = true → dat (k + 1) d = true
  | 0, d, h => dat_sc0 h 1
  | k + 1, d, h => by
    rcases dat_succ h with h | ⟨ds, hd, h1, h2⟩
    · exact dat_sc0 h _
    · rcases hd with rfl | rfl
      · exact dat_tup h1 fun x hx => dat_up (h2 x hx)
      · exact dat_lst h1 fun x hx => dat_up (h2 x hx)
theorem dat_le {k m : Nat} {d : D} (h : dat k d = true) (l : k ≤ m) : dat m d = true := by
  induction l with
  | refl => exact h
  | step _ ih => exact dat_up ih
theorem dat_bnd : ∀ {k : Nat} {d : D} {n : Nat}, dat k d = true → d.bnd n = true
  | 0, d, n, h => sc0_bnd h
  | k + 1, d, n, h => by
    rcases dat_succ h with h | ⟨ds, hd, _, h2⟩
    · exact sc0_bnd h
    · rcases hd with rfl | rfl
      · unfold D.bnd
        exact bndL_map fun x hx => dat_bnd (h2 x hx)
      · unfold D.bnd
        exact bndL_map fun x hx => dat_bnd (h2 x hx)
def PdOk (k : Nat) (d : D) : Prop := pd d = some (pyd d) ∧ (pyd d).canLay0 = true ∧ (pyd d).depth ≤ k
theorem pdL_ok {k : Nat} : ∀ {ds : List D}, (∀ x ∈ ds, PdOk k x) → pdL ds = some (pydL ds) ∧ PyData.canLayAll0 (pydL ds) = true ∧ PyData.depthAll (pydL ds) ≤ k
  | [], _ => ⟨rfl, rfl, Nat.zero_le _⟩
  | d :: ds, h => by
    obtain ⟨a1, a2, a3⟩ := h d List.mem_cons_self
    obtain ⟨b1, b2, b3⟩ := pdL_ok (ds := ds) fun x hx => h x (List.mem_cons_of_mem _ hx)
    refine ⟨?_, ?_, ?_⟩
    · unfold pdL pydL
      rw [a1, b1]
    · unfold pydL PyData.canLayAll0
      rw [a2, b2]
      rfl
    · unfold pydL PyData.depthAll
      exact Nat.max_le.mpr ⟨a3, b3⟩
theorem sc0_ok {d : D} (h : sc0 d = true) (k : Nat) : PdOk k d := by
  cases d with
  | non => exact ⟨rfl, rfl, Nat.zero_le _⟩
  | bl _ => exact ⟨rfl, rfl, Nat.zero_le _⟩
  | int _ => exact ⟨rfl, rfl, Nat.zero_le _⟩
  | str _ => exact ⟨rfl, h, Nat.zero_le _⟩
  | _ => cases h
theorem dat_pd : ∀ {k : Nat} {d : D}, dat k d = true → PdOk k d
  | 0, d, h => sc0_ok h 0
  | k + 1, d, h => by
    rcases dat_succ h with h | ⟨ds, hd, _, h2⟩
    · exact sc0_ok h _
    · obtain ⟨b1, b2, b3⟩ := pdL_ok (ds := ds) fun x hx => dat_pd (h2 x hx)
      rcases hd with rfl | rfl
      · refine ⟨?_, ?_, ?_⟩
        · unfold pd pyd
          rw [b1]
        · unfold pyd PyData.canLay0
          exact b2
        · unfold pyd PyData.depth
          omega
      · refine ⟨?_, ?_, ?_⟩
        · unfold pd pyd
          rw [b1]
        · unfold pyd PyData.canLay0
          exact b2
        · unfold pyd PyData.depth
          omega
theorem PdOk.shaped {k : Nat} {d : D} (h : PdOk k d) (l : k ≤ 64) : SeqAt.shaped (pyd d) = true := by
  unfold SeqAt.shaped
  rw [h.2.1, decide_eq_true (Nat.le_trans h.2.2 l)]
  rfl

def leD (a b : D) : Bool := PySem.W.dataLe false pyd a b
def sortD (ds : List D) : List D := ds.mergeSort leD
end Z
namespace Z
open PySem PySem.Spec PyProof.Rows L2
open PySem (wpAny_bind wpAny_pure)


def intsOf : List D → Option (List Int)
  | [] => some []
  | .int i :: ds => (intsOf ds).map (i :: ·)
  | _ :: _ => none
end Z
namespace Z
open PySem PySem.Spec PyProof.Rows L2



def sKind : D → Nat
  | .tup _ => 1
  | .kt _ => 2
  | _ => 0
section
variable {K : PySem.W.Frag} {W : WX} {ρ : Sl} {M : Mem} {Ξ : XN} {te : TE} {Ψ : List D → (Mem → Prop) → Mem → Prop}
theorem iw_seq (n : Nat) (h : EW K W te ρ M (fun d M1 => sKind d = n ∧ ∃ ds, asS M1 d = some ds ∧ Ψ ds (fun M' => asS M' d = some ds) M1) Ξ) : IW K W (iAny K te) ρ M Ψ Ξ := by
  match n, h with
  | 0, h =>
    refine iw_list (ew_mono h fun d M1 ⟨e, ds, h1, q⟩ => ⟨?_, ds, h1, q⟩)
    cases d <;> first | rfl | cases e
  | 1, h =>
    exact fun w σ R g e x k => .inr (.inl (h w σ _ g e x fun v w1 d M1 e1 g1 r1 ⟨ek, ds, hd, q⟩ => by
      cases d with
      | tup xs =>
        cases hd
        obtain ⟨a, vs, rfl, hs, rl⟩ := id r1
        exact ⟨a, rfl, ⟨vs, .inl (.inl (g1.sub _ _ hs))⟩, k _ w1 ds _ M1 e1 g1 (fun i w2 M2 e2 g2 _ => jz_tup r1 i w2 M2 e2 g2 trivial) q⟩
      | _ => cases ek))
  | 2, h =>
    exact fun w σ R g e x k => .inr (.inl (h w σ _ g e x fun v w1 d M1 e1 g1 r1 ⟨ek, ds, hd, q⟩ => by
      cases d with
      | kt xs =>
        cases hd
        obtain ⟨a, vs, rfl, hs, rl⟩ := id r1
        exact ⟨a, rfl, ⟨vs, sqt_same g1.sub hs⟩, k _ w1 ds _ M1 e1 g1 (fun i w2 M2 e2 g2 _ => jz_kt r1 i w2 M2 e2 g2 trivial) q⟩
      | _ => cases ek))
  | n + 3, h =>
    refine iw_list (ew_mono h fun d M1 ⟨e, _⟩ => ?_)
    exfalso
    cases d <;> cases e
theorem repL_app {w : Wd} : ∀ {ds es : List D} {vs us : List V}, RepL K w ds vs → RepL K w es us → RepL K w (ds ++ es) (vs ++ us)
  | [], _, _, _, h1, h2 => by
    have e := (show _ = [] from h1)
    subst e
    exact h2
  | _ :: _, _, _, _, h1, h2 => by
    obtain ⟨v, r, rfl, a, b⟩ := h1
    exact ⟨v, r ++ _, rfl, a, repL_app b h2⟩
theorem ew_makeDv {C : Addr} {S : DSp} {Ef : XK} {Φ : D → Mem → Prop} {tA : TA} {dvs : List V} {es : List D} (hE : ∀ w0 σ0, XOK K W w0 Ξ → RepE K w0 ρ σ0 → ∀ cls fo w' M' d, Ext w0 w' → (∀ a, d = some a → w0.H a = none) → GM K w' M' → XdAt K w' d fo → Ξ cls fo ρ M' → Ef cls d w'.H) (hd : ∀ w, RepL K w es dvs)
    (h : EA K W tA ρ M (fun ds M1 => S (.ref M1.length :: (ds ++ es)) (M1 ++ [.ins C []]) (fun d M2 => d = .non ∧ Φ (.ref M1.length) M2) (fun c fo M' => Ξ c fo ρ M')) Ξ) : EW K W (tMake C (spOf K S) dvs Ef tA) ρ M Φ Ξ := by
  have e : tMake C (spOf K S) dvs Ef tA = tMake C (spOf K S) [] Ef (fun σ H Q => tA σ H fun vs H1 => Q (vs ++ dvs) H1) := by
    funext σ H Q
    unfold tMake
    simp only [List.append_nil]
  rw [e]
  refine ew_make hE ?_
  exact fun w σ Q g e x k => h w σ _ g e x fun vs w' ds M' e1 g1 r1 q => k _ w' (ds ++ es) M' e1 g1 (repL_app r1 (hd w')) q
end

end Z
namespace Z
open PySem PySem.Spec PyProof.Rows L2

abbrev Cl : Type := Value × Nat × (Addr → Value → Option Addr → TS)

end Z
namespace Z
open PySem PySem.Spec PyProof.Rows L2
open PySem (wpAny_bind wpAny_pure)

section
open PySem.W
theorem int_decl (b : Int) (u : Tok) (x : Addr) (C dx : Addr) :
    Meets (Builtin.«int.__eq__» ⟨[.int b u, .ref x], []⟩) (fun _ R s => s.heap.get? x = some (instObj C dx) ∧ R (.ok (.ret .notImplemented)) s) :=
  .of_wp fun prog w A R s h => by
    obtain ⟨hp, g, d, tk, os⟩ := s
    obtain ⟨hl, h⟩ := h
    wp_walk using wpAny_loadPart' hl, wpAny_load hl
    exact ⟨_, rfl, h⟩
theorem bl_decl (b : Bool) (x : Addr) (C dx : Addr) :
    Meets (Builtin.«int.__eq__» ⟨[.bool b, .ref x], []⟩) (fun _ R s => s.heap.get? x = some (instObj C dx) ∧ R (.ok (.ret .notImplemented)) s) :=
  .of_wp fun prog w A R s h => by
    obtain ⟨hp, g, d, tk, os⟩ := s
    obtain ⟨hl, h⟩ := h
    wp_walk using wpAny_loadPart' hl, wpAny_load hl
    exact ⟨_, rfl, h⟩
theorem str_decl (b : Str) (u : Tok) (x : Addr) (C dx : Addr) :
    Meets (Builtin.«str.__eq__» ⟨[.str b u, .ref x], []⟩) (fun _ R s => s.heap.get? x = some (instObj C dx) ∧ R (.ok (.ret .notImplemented)) s) :=
  .of_wp fun prog w A R s h => by
    obtain ⟨hp, g, d, tk, os⟩ := s
    obtain ⟨hl, h⟩ := h
    wp_walk using wpAny_loadPart' hl, wpAny_load hl
    exact ⟨_, rfl, h⟩
end
section
variable {prog : Program} {w : World} {A : Around} {E : Value → Shared → Prop} {s : Shared} {K : PySem.W.Frag} {x C f : Addr} {ox : Obj} {od : Option Obj}
theorem no_inst {T : String} {Q : Bool → Shared → Prop} (X : K.In s.heap) (I : PySem.W.InstAt s.heap x ox C od) (e : PySem.W.subIn K (.ref C) (.type T) = some false) (h : Q false s) : wpAny (model prog w) A (isInstance (.ref x) (.type T)) Q E s := by
  unfold isInstance
  apply wpAny_bind
  apply I.type.here
  exact (PySem.W.looks_subIn X e).here h
def Decl (prog : Program) (w : World) (A : Around) (E : Value → Shared → Prop) (s : Shared) (id : String) (a : Value) (x : Addr) : Prop := ∀ Q : Value → Shared → Prop, Q .notImplemented s → wpAny (model prog w) A (call (.builtin id) [a, .ref x]) Q E s
end

section
variable {prog : Program} {w : World} {A : Around} {E : Value → Shared → Prop} {s : Shared} {K : PySem.W.Frag} {x C : Addr} {ox : Obj} {od : Option Obj}
theorem decl_non : Decl prog w A E s "NoneType.__eq__" .none x := fun _ q => call_gives F.slot_NoneType_eq rfl F.entry_NoneType_eq (F.args_NoneType_eq_2 _ _) (SeqAt.NoneType___eq___none_ref_0 x) q
theorem decl_int {i : Int} {u : Tok} {dx : Addr} (h : s.heap.get? x = some (PySem.W.instObj C dx)) : Decl prog w A E s "int.__eq__" (.int i u) x := fun _ q => call_meets F.slot_int_eq (typeIs_int s i u) F.entry_int_eq (F.args_int_eq_2 _ _) (int_decl i u x C dx) ⟨h, q⟩
theorem decl_bl {b : Bool} {dx : Addr} (h : s.heap.get? x = some (PySem.W.instObj C dx)) : Decl prog w A E s "int.__eq__" (.bool b) x := fun _ q => call_meets F.slot_bool_eq (show s.TypeIs (.bool b) "bool" from rfl) F.entry_int_eq (F.args_int_eq_2 _ _) (bl_decl b x C dx) ⟨h, q⟩
theorem decl_str {i : Str} {u : Tok} {dx : Addr} (h : s.heap.get? x = some (PySem.W.instObj C dx)) : Decl prog w A E s "str.__eq__" (.str i u) x := fun _ q => call_meets F.slot_str_eq (typeIs_str s i u) F.entry_str_eq (F.args_str_eq_2 _ _) (str_decl i u x C dx) ⟨h, q⟩
theorem decl_lst {l : Addr} (X : K.In s.heap) (I : PySem.W.InstAt s.heap x ox C od) (e : PySem.W.subIn K (.ref C) (.type "list") = some false) (hl : s.TypeIs (.ref l) "list") : Decl prog w A E s "list.__eq__" (.ref l) x := fun Q q => by
  refine PySem.wpAny_call_entry F.slot_list_eq hl F.entry_list_eq ?_ (F.args_list_eq_2 _ _)
  show wpAny _ _ (isInstance (.ref x) (.type "list") >>= _) _ _ s
  apply wpAny_bind
  apply no_inst X I e
  exact wpAny_pure ⟨_, rfl, q⟩
theorem decl_tup {l : Addr} (X : K.In s.heap) (I : PySem.W.InstAt s.heap x ox C od) (e : PySem.W.subIn K (.ref C) (.type "tuple") = some false) (hl : s.TypeIs (.ref l) "tuple") : Decl prog w A E s "tuple.__eq__" (.ref l) x := fun Q q => by
  refine PySem.wpAny_call_entry F.slot_tuple_eq hl F.entry_tuple_eq ?_ (F.args_tuple_eq_2 _ _)
  show wpAny _ _ (isInstance (.ref x) (.type "tuple") >>= _) _ _ s
  apply wpAny_bind
  apply no_inst X I e
  exact wpAny_pure ⟨_, rfl, q⟩
theorem decl_dct {l : Addr} (X : K.In s.heap) (I : PySem.W.InstAt s.heap x ox C od) (e : PySem.W.subIn K (.ref C) (.type "dict") = some false) (hl : s.TypeIs (.ref l) "dict") : Decl prog w A E s "dict.__eq__" (.ref l) x := fun Q q => by
  refine PySem.wpAny_call_entry F.slot_dict_eq hl F.entry_dict_eq ?_ (F.args_dict_eq_2 _ _)
  show wpAny _ _ (Builtin.Dict.dictSlotArgs "__eq__" ⟨[.ref l, .ref x], []⟩ >>= _) _ _ s
  apply wpAny_bind
  unfold Builtin.Dict.dictSlotArgs
  apply wpAny_bind
  apply wpAny_notOrdered_dict hl
  show wpAny _ _ (pure (Value.ref l, Value.ref x)) _ _ s
  apply wpAny_pure
  apply wpAny_bind
  apply no_inst X I e
  simp only [Bool.not_false, if_true]
  apply wpAny_bind
  apply wpAny_rule
  exact wpAny_pure ⟨_, rfl, q⟩
end

def BtV (K : PySem.W.Frag) (H : Hp) (x : V) (T : String) : Prop :=
  (x = .non ∧ T = "NoneType") ∨ (∃ i, x = .int i ∧ T = "int") ∨ (∃ z, x = .str z ∧ T = "str") ∨ (∃ a xs, x = .ref a ∧ SqL K H a xs ∧ T = "list") ∨ (∃ a xs, x = .ref a ∧ SqT K H a xs ∧ T = "tuple") ∨ (∃ a kvs, x = .ref a ∧ H a = some (.dK kvs) ∧ T = "dict") ∨ ∃ b, x = .bl b ∧ T = "bool"
theorem looks_ref {M : Model} {h : Heap} {a : Addr} {o : Obj} {t : Value} (e : h.get? a = some o) (c : o.cls = t) : PySem.W.Looks M h (typeOf (.ref a)) t := fun A Q E s k q => wpAny_typeOf_ref (k _ _ e) (by rw [c]; exact q)
section
variable {X : Cx} {pins : List (Addr × Obj)} {σ : L2.St} {H : Hp} {s : Shared} {x : V} {u : Value} {T : String}
theorem btv (I : Inv X pins σ H s) (r : RelV x u) (h : BtV X.K H x T) : s.TypeIs u T ∧ PySem.W.Looks (model X.prog X.w) s.heap (typeOf u) (.type T) ∧ ∃ id, Slot T "__eq__" id ∧
    ∀ (A : Around) (E : Value → Shared → Prop) (a C dx : Addr) (od : Option Obj), s.heap.get? a = some (PySem.W.instObj C dx) → PySem.W.InstAt s.heap a (PySem.W.instObj C dx) C od → PySem.W.subIn X.K (.ref C) (.type T) = some false → Decl X.prog X.w A E s id u a := by
  rcases h with ⟨rfl, rfl⟩ | ⟨i, rfl, rfl⟩ | ⟨z, rfl, rfl⟩ | ⟨a, xs, rfl, hs, rfl⟩ | ⟨a, xs, rfl, hs, rfl⟩ | ⟨a, kvs, rfl, hs, rfl⟩ | ⟨b, rfl, rfl⟩
  · obtain rfl : u = .none := r
    exact ⟨rfl, fun A Q E s k q => wpAny_typeOf (T := "NoneType") rfl q, _, F.slot_NoneType_eq, fun A E a C dx od h1 h2 h3 => decl_non⟩
  · obtain ⟨t, rfl⟩ := r
    exact ⟨typeIs_int s i t, fun A Q E s k q => wpAny_typeOf (typeIs_int s i t) q, _, F.slot_int_eq, fun A E a C dx od h1 h2 h3 => decl_int h1⟩
  · obtain ⟨t, rfl⟩ := r
    exact ⟨typeIs_str s z t, fun A Q E s k q => wpAny_typeOf (typeIs_str s z t) q, _, F.slot_str_eq, fun A E a C dx od h1 h2 h3 => decl_str h1⟩
  · obtain rfl : u = Value.ref a := r
    obtain ⟨its, rv, hl, _⟩ := I.list hs
    obtain ⟨o, e, c, _⟩ := hl.isList
    exact ⟨⟨o, e, c⟩, looks_ref e c, _, F.slot_list_eq, fun A E b C dx od h1 h2 h3 => decl_lst I.kIn h2 h3 ⟨o, e, c⟩⟩
  · obtain rfl : u = Value.ref a := r
    obtain ⟨its, rv, hl, _⟩ := I.tuple hs
    obtain ⟨o, e, c, _⟩ := hl
    exact ⟨⟨o, e, c⟩, looks_ref e c, _, F.slot_tuple_eq, fun A E b C dx od h1 h2 h3 => decl_tup I.kIn h2 h3 ⟨o, e, c⟩⟩
  · obtain rfl : u = Value.ref a := r
    have ty := dict_typeIs (y := kV (.inl 0)) I (DGet.k (k := .inl 0) hs)
    obtain ⟨o, e, c⟩ := id ty
    exact ⟨ty, looks_ref e c, _, F.slot_dict_eq, fun A E b C dx od h1 h2 h3 => decl_dct I.kIn h2 h3 ty⟩
  · obtain rfl : u = .bool b := r
    exact ⟨rfl, fun A Q E s k q => wpAny_typeOf (T := "bool") rfl q, _, F.slot_bool_eq, fun A E a C dx od h1 h2 h3 => decl_bl h1⟩
end
def rEqOB (K : PySem.W.Frag) (C : Addr) (sp : Sp) (E : XK) : R2 := fun x y H Q => ∃ a dx fs T, x = .ref a ∧ H a = some (.ins C dx fs) ∧ BtV K H y T ∧ PySem.W.notFirst K C (.type T) = true ∧ sp [x, y] H (fun v H2 => ∃ t : Bool, v = .bl t ∧ Q (.bl t) H2) E
section
variable {X : Cx} {C f : Addr} {k : Nat} {sp : Sp} {E : XK}
theorem op_eqOB (hs : PySem.W.findIn X.K (.ref C) "__eq__" = some (some (.ref f))) (hf : PySem.W.isFn X.K (.ref f) = true) (F : FnR X.prog X.w X.K X.mg X.base (L2.CX X.prog X.w) k f sp) (hr : Room k X.A) (hx : Passes (L2.CX X.prog X.w) X E) :
    OpR X (compareOp .Eq) (rEqOB X.K C sp E) := by
  intro pins s σ H x y v u Q I rx ry h
  obtain ⟨a, dx, fs, T, rfl, ha, hb, hn, q⟩ := h
  cases (show v = Value.ref a from rx)
  obtain ⟨od, J⟩ := ins_at I ha
  obtain ⟨_, hl, _⟩ := btv I ry hb
  obtain ⟨m, hF⟩ := I.fr
  show wpAny _ _ (richCompare .Eq _ _) _ _ _
  apply PySem.W.cmp_K (op := .Eq) (tb := .type T) hr.units0 hF I.ok.mod.kin J hl hn hs hf
  refine wpAny_mono (wpAny_call (run_fnR (us := [.ref a, u]) (vs := [.ref a, y]) F hr hx I (.cons rfl (.cons ry .nil)) q)) (fun z s' hz => ?_) fun _ _ y => y
  obtain ⟨z', H', I', rz, t, ez, qz⟩ := hz
  subst ez
  exact SlX.cmpback rz ⟨.bl t, H', I', rz, qz⟩
end
end Z
namespace Z
open PySem PySem.Spec PyProof.Rows L2
open PySem (wpAny_bind wpAny_pure)


end Z
namespace Z
open PySem PySem.Spec PyProof.Rows L2
section
variable {K : PySem.W.Frag} {w : Wd} {M : Mem} {Φ : D → Mem → Prop}
def BtD (M : Mem) (d : D) (T : String) : Prop :=
  (d = .non ∧ T = "NoneType") ∨ (∃ i, d = .int i ∧ T = "int") ∨ (∃ z, d = .str z ∧ T = "str") ∨ (∃ xs, asL M d = some xs ∧ T = "list") ∨ (∃ xs, d = .tup xs ∧ T = "tuple") ∨ (∃ kvs, dkD M d = some kvs ∧ T = "dict") ∨ ∃ b, d = .bl b ∧ T = "bool"
theorem btd_rep {d : D} {v : V} {T : String} (g : GM K w M) (r : Rep K w d v) (h : BtD M d T) : BtV K w.H v T := by
  rcases h with ⟨rfl, rfl⟩ | ⟨i, rfl, rfl⟩ | ⟨z, rfl, rfl⟩ | ⟨xs, hs, rfl⟩ | ⟨xs, rfl, rfl⟩ | ⟨kvs, hs, rfl⟩ | ⟨b, rfl, rfl⟩
  · exact .inl ⟨r, rfl⟩
  · exact .inr (.inl ⟨i, r, rfl⟩)
  · exact .inr (.inr (.inl ⟨z, r, rfl⟩))
  · obtain ⟨a, us, rfl, h2, h3⟩ := asL_SqL g r hs
    exact .inr (.inr (.inr (.inl ⟨a, us, rfl, h2, rfl⟩)))
  · obtain ⟨a, us, rfl, h2, h3⟩ := r
    exact .inr (.inr (.inr (.inr (.inl ⟨a, us, rfl, .inl (.inl (g.sub _ _ h2)), rfl⟩))))
  · obtain ⟨a, kv, rfl, h2, h3⟩ := dkD_rep g r hs
    exact .inr (.inr (.inr (.inr (.inr (.inl ⟨a, kv, rfl, h2, rfl⟩)))))
  · exact .inr (.inr (.inr (.inr (.inr (.inr ⟨b, r, rfl⟩)))))
theorem oz_eqOB {S : DSp} {n : Nat} {C : Addr} {fs : List (Str × D)} {y : D} {T : String} (h1 : M[n]? = some (.ins C fs)) (h2 : BtD M y T) (hn : PySem.W.notFirst K C (.type T) = true) (h : S [.ref n, y] M (fun d M' => ∃ t : Bool, d = .bl t ∧ Φ (.bl t) M') NoX) : OpZ K (rEqOB K C (spOf K S) E0) (.ref n) y M Φ := fun w v u Q g r1 r2 k => by
  obtain ⟨a, ha, rfl⟩ := id r1
  obtain ⟨_, dx, kv, hH, _⟩ := g.own n a _ ha h1
  refine ⟨a, dx, kv, T, rfl, hH, btd_rep g r2 h2, hn, sp_run (ds := [.ref n, y]) g ⟨.ref a, [u], rfl, r1, RepL.one r2⟩ h fun v w' d M' e g' r' q => ?_⟩
  obtain ⟨t, ed, q⟩ := q
  subst ed
  exact ⟨t, r', k (.bl t) w' (.bl t) M' e g' rfl q⟩
end
end Z
namespace Z
open PySem PySem.Spec PyProof.Rows L2
end Z
namespace Z
open PySem PySem.Spec PyProof.Rows L2 HT
open PySem (wpAny_bind wpAny_pure)

end Z
namespace Z
open PySem PySem.Spec PyProof.Rows L2
theorem ps_setLcM {X : Cx} {i : Nat} {y : Str} {py : Pos} {elt tg iter : Expr} {ifs : List Expr} {scope : Scope} {own : List (Str × Nat)} {pos spos : Pos} {wi : TI} {g : TG} {tt : TT} {te : TE} (hc : X.calm = true) (hN : X.N.Nodup) (hy : X.N[i]? = some y) (hyl : X.env.scope.names.lookup y = some .local)
    (hsw : swapsWith (.ListComp elt [⟨tg, iter, ifs, 0⟩] scope pos) (some (.Name y py)) spos.line X.env = pure true) (hi : PI X tg iter wi) (ok : BlkOk X.N X.env.scope scope own)
    (hg : ∀ (s : Shared) (H : Hp) (C : Addr) (cl : List (Str × Addr)) (fp : List Addr), PG (X.blk s H scope (compEnvC scope cl C X.env) fp) tg g) (ht : ∀ (s : Shared) (H : Hp) (C : Addr) (cl : List (Str × Addr)) (fp : List Addr), PTs (X.blk s H scope (compEnvC scope cl C X.env) fp) ifs tt)
    (he : ∀ (s : Shared) (H : Hp) (C : Addr) (cl : List (Str × Addr)) (fp : List Addr), PE (X.blk s H scope (compEnvC scope cl C X.env) fp) elt te) (hs : ∀ x, foldedSetIterable iter X.env x = pure x := by intro _; rfl) :
    PS X (.Assign [.Name y py] (.ListComp elt [⟨tg, iter, ifs, 0⟩] scope pos) spos) (tAsg (tLcM wi g tt te (own.map (·.2))) (gName i)) := ps_setLc hc hN hy hyl hsw hi ok hg ht he hs
end Z
namespace Z
open PySem PySem.Spec PyProof.Rows L2
section
variable {K : PySem.W.Frag} {M : Mem} {Φ : D → Mem → Prop} {S : DSp} {C : Addr}
theorem oz_or1 {r r' : R2} {x y : D} (h : OpZ K r x y M Φ) : OpZ K (fun x y H Q => r x y H Q ∨ r' x y H Q) x y M Φ := fun w v u Q g r1 r2 k => .inl (h w v u Q g r1 r2 k)
theorem oz_or2 {r r' : R2} {x y : D} (h : OpZ K r' x y M Φ) : OpZ K (fun x y H Q => r x y H Q ∨ r' x y H Q) x y M Φ := fun w v u Q g r1 r2 k => .inr (h w v u Q g r1 r2 k)
end
end Z
namespace Z
open PySem PySem.Spec PyProof.Rows L2
def mulS (n : Nat) (a : Str) : Str := ⟨(List.replicate n a.cps).foldl (· ++ ·) #[]⟩
end Z
namespace Z
open PySem PySem.Spec PyProof.Rows L2
def enumD : Nat → List D → List D
  | _, [] => []
  | k, d :: r => .tup [.int (k : Int), d] :: enumD (k + 1) r
end Z
namespace Z
open PySem PySem.Spec PyProof.Rows L2
def bTys : List String := ["NoneType", "bool", "int", "str", "tuple", "list", "dict"]
def kitC (K : PySem.W.Frag) (C : Str) : Bool := bTys.all fun t => decide (PySem.W.kitOne K (.type t) (.ref (He.ga K C)) = some false)
def bt7 : List String := ["NoneType", "int", "str", "bool", "tuple", "list", "dict"]
def eqBB (K : PySem.W.Frag) (C : Str) : Bool := bt7.all fun t => PySem.W.notFirst K (He.ga K C) (.type t) && decide (PySem.W.subIn K (.ref (He.ga K C)) (.type t) = some false)
def neBB (K : PySem.W.Frag) (C : Addr) : Bool := (match PySem.W.findIn K (.ref C) "__ne__" with
  | some (some (.builtin id)) => id == "object.__ne__"
  | _ => false) && decide (PySem.W.subIn K (.ref C) (.type "object") = some true)
end Z
namespace Lw
open PySem PySem.Spec PyProof.Rows L2 Z
def top (i : Nat) : Stmt := PySem.Challenge.pw_latertasks_k34_runs_made.main.body.getD i (.Pass ⟨0, 0, 0, 0⟩)
abbrev s_new_source : Stmt := top 3
theorem sc_new_source : FnScope ["_law_script", "_law_place", "_law_cell", "_law_large"] ["_law_script", "_law_place"] (defScope s_new_source) := ⟨rfl, rfl, rfl, by decide +kernel, rfl, by decide +kernel, by decide +kernel⟩
def D_new_source : He5.DefA := ⟨fun K => (He.ga K "_law_new_source"), "_law_new_source", "_law_new_source", defArgs s_new_source, defBody s_new_source, defScope s_new_source, [], []⟩
abbrev Fd_new_source (K : PySem.W.Frag) (f : Addr) (fd : FuncData) : Prop := FunD K "_law_new_source" "_law_new_source" (defArgs s_new_source) (defBody s_new_source) (defScope s_new_source) [] [] f fd
abbrev s_draw : Stmt := top 4
theorem sc_draw : FnScope ["_law_source", "_law_many", "_law_digit", "_law_turn"] ["_law_source", "_law_many"] (defScope s_draw) := ⟨rfl, rfl, rfl, by decide +kernel, rfl, by decide +kernel, by decide +kernel⟩
def D_draw : He5.DefA := ⟨fun K => (He.ga K "_law_draw"), "_law_draw", "_law_draw", defArgs s_draw, defBody s_draw, defScope s_draw, [], []⟩
abbrev Fd_draw (K : PySem.W.Frag) (f : Addr) (fd : FuncData) : Prop := FunD K "_law_draw" "_law_draw" (defArgs s_draw) (defBody s_draw) (defScope s_draw) [] [] f fd
abbrev s_of : Stmt := top 5
theorem sc_of : FnScope ["_law_source", "_law_some"] ["_law_source", "_law_some"] (defScope s_of) := ⟨rfl, rfl, rfl, by decide +kernel, rfl, by decide +kernel, by decide +kernel⟩
def D_of : He5.DefA := ⟨fun K => (He.ga K "_law_of"), "_law_of", "_law_of", defArgs s_of, defBody s_of, defScope s_of, [], []⟩
abbrev Fd_of (K : PySem.W.Frag) (f : Addr) (fd : FuncData) : Prop := FunD K "_law_of" "_law_of" (defArgs s_of) (defBody s_of) (defScope s_of) [] [] f fd
abbrev s_own_deed : Stmt := top 6
theorem sc_own_deed : FnScope ["_law_source", "_law_word", "_law_number", "_law_kind", "_law_many", "_law_values", "_law_turn"] ["_law_source"] (defScope s_own_deed) := ⟨rfl, rfl, rfl, by decide +kernel, rfl, by decide +kernel, by decide +kernel⟩
def D_own_deed : He5.DefA := ⟨fun K => (He.ga K "_law_own_deed"), "_law_own_deed", "_law_own_deed", defArgs s_own_deed, defBody s_own_deed, defScope s_own_deed, [], []⟩
abbrev Fd_own_deed (K : PySem.W.Frag) (f : Addr) (fd : FuncData) : Prop := FunD K "_law_own_deed" "_law_own_deed" (defArgs s_own_deed) (defBody s_own_deed) (defScope s_own_deed) [] [] f fd
abbrev s_other : Stmt := top 7
theorem sc_other : FnScope ["_law_source", "_law_some", "_law_kind", "_law_at", "_law_turn"] ["_law_source", "_law_some"] (defScope s_other) := ⟨rfl, rfl, rfl, by decide +kernel, rfl, by decide +kernel, by decide +kernel⟩
def D_other : He5.DefA := ⟨fun K => (He.ga K "_law_other"), "_law_other", "_law_other", defArgs s_other, defBody s_other, defScope s_other, [], []⟩
abbrev Fd_other (K : PySem.W.Frag) (f : Addr) (fd : FuncData) : Prop := FunD K "_law_other" "_law_other" (defArgs s_other) (defBody s_other) (defScope s_other) [] [] f fd
abbrev s_Run_init : Stmt := inClass (top 1) 0
theorem sc_Run_init : FnScope ["self", "deeds", "once", "anew", "answers", "word", "is_so"] ["self", "deeds", "once", "anew"] (defScope s_Run_init) := ⟨rfl, rfl, rfl, by decide +kernel, rfl, by decide +kernel, by decide +kernel⟩
def D_Run_init : He5.DefA := ⟨fun K => (He.ma K (He.ga K "Run") "__init__"), "__init__", "Run.__init__", defArgs s_Run_init, defBody s_Run_init, defScope s_Run_init, [], []⟩
abbrev Fd_Run_init (K : PySem.W.Frag) (f : Addr) (fd : FuncData) : Prop := FunD K "__init__" "Run.__init__" (defArgs s_Run_init) (defBody s_Run_init) (defScope s_Run_init) [] [] f fd
abbrev s_Run_is_mixed : Stmt := inClass (top 1) 1
theorem sc_Run_is_mixed : FnScope ["self"] ["self"] (defScope s_Run_is_mixed) := ⟨rfl, rfl, rfl, by decide +kernel, rfl, by decide +kernel, by decide +kernel⟩
def D_Run_is_mixed : He5.DefA := ⟨fun K => (He5.wf K (He.ga K "Run") "property" "is_mixed"), "is_mixed", "Run.is_mixed", defArgs s_Run_is_mixed, defBody s_Run_is_mixed, defScope s_Run_is_mixed, [], []⟩
abbrev Fd_Run_is_mixed (K : PySem.W.Frag) (f : Addr) (fd : FuncData) : Prop := FunD K "is_mixed" "Run.is_mixed" (defArgs s_Run_is_mixed) (defBody s_Run_is_mixed) (defScope s_Run_is_mixed) [] [] f fd
abbrev s_Run_eq : Stmt := inClass (top 1) 2
theorem sc_Run_eq : FnScope ["self", "other"] ["self", "other"] (defScope s_Run_eq) := ⟨rfl, rfl, rfl, by decide +kernel, rfl, by decide +kernel, by decide +kernel⟩
def D_Run_eq : He5.DefA := ⟨fun K => (He.ma K (He.ga K "Run") "__eq__"), "__eq__", "Run.__eq__", defArgs s_Run_eq, defBody s_Run_eq, defScope s_Run_eq, [], []⟩
abbrev Fd_Run_eq (K : PySem.W.Frag) (f : Addr) (fd : FuncData) : Prop := FunD K "__eq__" "Run.__eq__" (defArgs s_Run_eq) (defBody s_Run_eq) (defScope s_Run_eq) [] [] f fd
abbrev s_right : Stmt := top 8
theorem sc_right : FnScope ["_law_source", "_law_one", "_law_two", "_law_three", "_law_made", "_law_kept", "_law_same", "_law_changed", "_law_due", "_law_place", "_law_parts", "_law_turn"] ["_law_source"] (defScope s_right) := ⟨rfl, rfl, rfl, by decide +kernel, rfl, by decide +kernel, by decide +kernel⟩
def D_right : He5.DefA := ⟨fun K => (He.ga K "_law_right"), "_law_right", "_law_right", defArgs s_right, defBody s_right, defScope s_right, [], []⟩
abbrev Fd_right (K : PySem.W.Frag) (f : Addr) (fd : FuncData) : Prop := FunD K "_law_right" "_law_right" (defArgs s_right) (defBody s_right) (defScope s_right) [] [] f fd
abbrev s_law : Stmt := top 9
theorem sc_law : FnScope ["_law_script", "_law_place", "_law_source", "_law_turn"] ["_law_script"] (defScope s_law) := ⟨rfl, rfl, rfl, by decide +kernel, rfl, by decide +kernel, by decide +kernel⟩
def D_law : He5.DefA := ⟨fun K => (He.ga K "law"), "law", "law", defArgs s_law, defBody s_law, defScope s_law, [], []⟩
abbrev Fd_law (K : PySem.W.Frag) (f : Addr) (fd : FuncData) : Prop := FunD K "law" "law" (defArgs s_law) (defBody s_law) (defScope s_law) [] [] f fd
def fn : List He5.DefA := [D_new_source, D_draw, D_of, D_own_deed, D_other, D_Run_init, D_Run_is_mixed, D_Run_eq, D_right, D_law]
def fa : List He.Fa := [.glo "_law_draw", .glo "_law_of", .glo "_law_own_deed", .glo "Run", .glo "_law_other", .glo "_law_new_source", .glo "_law_right", .glo "law", .free "abs", .free "int", .free "isinstance", .free "len", .free "list", .free "max", .free "min", .free "range", .free "repr", .free "reversed", .free "tuple", .cls "Run", .noat "Run" "deeds", .noat "Run" "once", .noat "Run" "anew", .noat "Run" "classes", .mkr "Run", .meth "Run" "__eq__"]
def exL (K : PySem.W.Frag) : List Bool := [insB K "Run", kitC K "Run", propB K "Run" "is_mixed", eqBB K "Run", PySem.W.notFirst K (He.ga K "Run") (.ref (He.ga K "Run")), neBB K (He.ga K "Run")]
def exB (K : PySem.W.Frag) : Bool := (exL K).all fun b => b
abbrev RwR : PySem.W.OpenRow := PySem.W.OpenLaw.row PySem.Challenge.rw_latertasks_k34_runs_made
def nhasW (m a : Nat) : Bool := Nat.beq (Nat.land (Nat.shiftRight m a) 1) 1
def bfsA {α : Type} : List Addr → Nat → List Addr → (Nat → List Addr → α) → α
  | [], m, nw, k => k m nw
  | a :: r, m, nw, k => match nhasW m a with
    | true => bfsA r m nw k
    | false => HandSHeadRun.frNat (Nat.lor m (Nat.shiftLeft 1 a)) fun m' => bfsA r m' (a :: nw) k
def bfsL {α : Type} (g : Addr → Option Obj) : List Addr → Nat → List Addr → (Nat → List Addr → α) → α
  | [], m, nw, k => k m nw
  | a :: r, m, nw, k => match g a with
    | some o => bfsA (He.refsD o) m nw fun m' nw' => bfsL g r m' nw' k
    | none => bfsL g r m nw k
def bfsW (g : Addr → Option Obj) : Nat → List Addr → Nat → List Addr
  | 0, fr, _ => fr
  | n + 1, fr, m => fr ++ bfsL g fr m [] fun m' nw => bfsW g n nw m'
def asW (g : Addr → Option Obj) : List Addr := cStatics :: bfsW g 9 [mainGlobals] (Nat.shiftLeft 1 mainGlobals)
def hookW (fa : List He.Fa) (fn : List He5.DefA) (ex : PySem.W.Frag → Bool) : PySem.W.Hook where
  α := He.AlD × Bool
  obs := fun s => (He5.obsA fa fn (He.frG s.heap.get? (asW s.heap.get?)), ex (He.frG s.heap.get? (asW s.heap.get?)))
  val := fun _ => (He5.valA fn, true)
  says := fun _ h => ∃ K : PySem.W.Frag, K.In h ∧ (He5.SaysA fa fn K ∧ ex K = true)
  of := fun _ _ e => ⟨_, He.frG_in, ⟨congrArg Prod.fst e, congrArg Prod.snd e⟩⟩
  keeps := fun _ _ _ ⟨K, hK, c⟩ k => ⟨K, PySem.W.Frag.In.keeps hK k, c⟩
def KoR (s : PySem.W.SharedT) : PySem.W.Frag := He.frG (HandSHeadRun.getT s) (asW (HandSHeadRun.getT s))
abbrev hkR : PySem.W.Hook := hookW fa fn exB
def obR (s : PySem.W.SharedT) : He.AlD × Bool := (He5.obsA fa fn (KoR s), exB (KoR s))
theorem obR_eq (s : PySem.W.SharedT) : obR s = hkR.obs s.abs := by
  have e : HandSHeadRun.getT s = s.abs.heap.get? := funext (HandSHeadRun.getT_eq s)
  unfold obR KoR
  rw [e]
  rfl
def looseR : List Str := (["Run", "_law_new_source", "_law_draw", "_law_of", "_law_own_deed", "_law_other", "_law_right"] : List Str)
theorem runR (w : World) : HandSHeadRun.RunEq RwR (PySem.W.view RwR.prog [9]) hkR obR 6000 looseR w := by
  intro os
  kernel_rfl
end Lw
namespace Z
open PySem PySem.Spec PyProof.Rows L2
end Z
namespace Z
open PySem PySem.Spec PyProof.Rows L2 Builtin

section
variable {K : PySem.W.Frag} {W : WX} {ρ : Sl} {M : Mem} {Ξ : XN} {te td : TE} {tA : TA} {Δ : Ed} {tb : TS} {tt : TT} {Ψ : List D → (Mem → Prop) → Mem → Prop} {Φ : D → Mem → Prop}
def zipD (xs ys : List D) : List D := (xs.zip ys).map fun p => .tup [p.1, p.2]
def rngC (lo c : Int) (n : Nat) : List D := (List.range n).map fun i => .int (lo + (i : Nat) * c)
end
end Z
namespace Z
open PySem PySem.Spec PyProof.Rows L2

def pickN (n : Nat) (lo hi st : Option Int) : List Nat := sliceRange (sliceBounds lo hi st n).1 (sliceBounds lo hi st n).2.1 (sliceBounds lo hi st n).2.2
def pickL {α : Type} (xs : List α) (lo hi st : Option Int) : List α := (pickN xs.length lo hi st).filterMap fun i => xs[i]?
end Z
namespace Z
open PySem PySem.Spec PyProof.Rows L2 Builtin

end Z
namespace Z
open PySem PySem.Spec PyProof.Rows L2

section
variable {K : PySem.W.Frag} {w : Wd}
mutual
theorem Rep.bndW : ∀ (d : D) (v : V), Rep K w d v → d.bnd w.α.length = true
  | .non, _, _ => rfl
  | .bl _, _, _ => rfl
  | .int _, _, _ => rfl
  | .str _, _, _ => rfl
  | .ty _, _, _ => rfl
  | .glo _, _, _ => rfl
  | .ref h, v, r => by
    obtain ⟨a, ha, _⟩ := r
    exact decide_eq_true (List.getElem?_eq_some_iff.mp ha).1
  | .tup ds, v, r => by
    obtain ⟨a, vs, _, _, hr⟩ := r
    exact RepL.bndW ds vs hr
  | .kt ds, v, r => by
    obtain ⟨a, vs, _, _, hr⟩ := r
    exact RepL.bndW ds vs hr
  | .lst ds, v, r => by
    obtain ⟨a, vs, _, _, hr⟩ := r
    exact RepL.bndW ds vs hr
  | .fz ds, v, r => by
    obtain ⟨a, vs, _, _, hr⟩ := r
    exact RepL.bndW ds vs hr
  | .dk kvs, v, r => by
    obtain ⟨a, vs, _, _, hr⟩ := r
    exact RepK.bndW kvs vs hr
theorem RepL.bndW : ∀ (ds : List D) (vs : List V), RepL K w ds vs → bndL w.α.length ds = true
  | [], _, _ => rfl
  | d :: ds, _, h => by
    obtain ⟨v, r, hv, h1, h2⟩ := h
    unfold bndL
    rw [Rep.bndW d v h1, RepL.bndW ds r h2]
    rfl
theorem RepK.bndW : ∀ (ds : List (Key × D)) (vs : List (Key × V)), RepK K w ds vs → bndK w.α.length ds = true
  | [], _, _ => rfl
  | (k, d) :: ds, _, h => by
    obtain ⟨v, r, hv, h1, h2⟩ := h
    unfold bndK
    rw [Rep.bndW d v h1, RepK.bndW ds r h2]
    rfl
end
theorem Own.bndW {a : Addr} {m : MO} (h : Own K w a m) : m.bnd w.α.length = true := by
  cases m with
  | lst ds =>
    obtain ⟨_, vs, _, h3⟩ := h
    exact RepL.bndW _ _ h3
  | dT kvs =>
    obtain ⟨_, vs, _, _, h3⟩ := h
    exact RepL.bndW _ _ h3
  | dK kvs =>
    obtain ⟨_, vs, _, _, h3⟩ := h
    exact RepL.bndW _ _ h3
  | ins C fs =>
    obtain ⟨_, dx, vs, _, _, h3⟩ := h
    exact RepL.bndW _ _ h3
  | fT o kvs =>
    obtain ⟨_, _, od, vs, _, _, h3⟩ := h
    exact RepL.bndW _ _ h3
  | fK o kvs =>
    obtain ⟨_, _, od, vs, _, _, h3⟩ := h
    exact RepL.bndW _ _ h3
  | xd b fs =>
    obtain ⟨_, vs, _, _, h3⟩ := h
    exact RepL.bndW _ _ h3
  | gone => rfl
theorem GM.bndW {M : Mem} (g : GM K w M) : ∀ m ∈ M, m.bnd M.length = true := fun m hm => by
  obtain ⟨n, hn, e⟩ := List.mem_iff_getElem.mp hm
  have hn2 : n < w.α.length := by
    rw [g.len]
    exact hn
  have := Own.bndW (g.own n w.α[n] m (by simp [hn2]) (by rw [← e]; simp [hn]))
  rwa [g.len] at this
end
end Z
namespace Z
open PySem PySem.Spec PyProof.Rows L2

inductive R (α : Type) where
  | ok (a : α) (M : Mem)
  | xc (c : Value) (fo : Option (List (Str × D))) (M : Mem)
  | bad
inductive RS where
  | nx (ρ : Sl) (M : Mem)
  | rt (d : D) (M : Mem)
  | bk (ρ : Sl) (M : Mem)
  | ct (ρ : Sl) (M : Mem)
  | xc (c : Value) (fo : Option (List (Str × D))) (ρ : Sl) (M : Mem)
  | bad
def R.sat {α : Type} : R α → (α → Mem → Prop) → XM → Prop
  | .ok a M, Φ, _ => Φ a M
  | .xc c fo M, _, Ξ => Ξ c fo M
  | .bad, _, _ => False
def RS.sat : RS → Ed → Prop
  | .nx ρ M, Δ => Δ.nx ρ M
  | .rt d M, Δ => Δ.rt d M
  | .bk ρ M, Δ => Δ.bk ρ M
  | .ct ρ M, Δ => Δ.ct ρ M
  | .xc c fo ρ M, Δ => Δ.xn c fo ρ M
  | .bad, _ => False
def R.bd {α β : Type} : R α → (α → Mem → R β) → R β
  | .ok a M, k => k a M
  | .xc c fo M, _ => .xc c fo M
  | .bad, _ => .bad
def R.bs {α : Type} : R α → Sl → (α → Mem → RS) → RS
  | .ok a M, _, k => k a M
  | .xc c fo M, ρ, _ => .xc c fo ρ M
  | .bad, _, _ => .bad
def RS.th : RS → (Sl → Mem → RS) → RS
  | .nx ρ M, k => k ρ M
  | r, _ => r
theorem bd_ok {α β : Type} {a : α} {M : Mem} {k : α → Mem → R β} : (R.ok a M).bd k = k a M := rfl
theorem bd_xc {α β : Type} {c : Value} {fo : Option (List (Str × D))} {M : Mem} {k : α → Mem → R β} : (R.xc c fo M : R α).bd k = .xc c fo M := rfl
theorem bd_bad {α β : Type} {k : α → Mem → R β} : (R.bad : R α).bd k = .bad := rfl
theorem bs_ok {α : Type} {a : α} {ρ : Sl} {M : Mem} {k : α → Mem → RS} : (R.ok a M).bs ρ k = k a M := rfl
theorem bs_xc {α : Type} {c : Value} {fo : Option (List (Str × D))} {ρ : Sl} {M : Mem} {k : α → Mem → RS} : (R.xc c fo M : R α).bs ρ k = .xc c fo ρ M := rfl
theorem bs_bad {α : Type} {ρ : Sl} {k : α → Mem → RS} : (R.bad : R α).bs ρ k = .bad := rfl
theorem th_nx {ρ : Sl} {M : Mem} {k : Sl → Mem → RS} : (RS.nx ρ M).th k = k ρ M := rfl
theorem th_rt {d : D} {M : Mem} {k : Sl → Mem → RS} : (RS.rt d M).th k = .rt d M := rfl
theorem th_bk {ρ : Sl} {M : Mem} {k : Sl → Mem → RS} : (RS.bk ρ M).th k = .bk ρ M := rfl
theorem th_ct {ρ : Sl} {M : Mem} {k : Sl → Mem → RS} : (RS.ct ρ M).th k = .ct ρ M := rfl
theorem th_xc {c : Value} {fo : Option (List (Str × D))} {ρ : Sl} {M : Mem} {k : Sl → Mem → RS} : (RS.xc c fo ρ M).th k = .xc c fo ρ M := rfl
theorem th_bad {k : Sl → Mem → RS} : RS.bad.th k = .bad := rfl
theorem bd_ite {α β : Type} {c : Prop} [Decidable c] {a b : R α} {k : α → Mem → R β} : (if c then a else b).bd k = if c then a.bd k else b.bd k := by split <;> rfl
theorem bs_ite {α : Type} {c : Prop} [Decidable c] {a b : R α} {ρ : Sl} {k : α → Mem → RS} : (if c then a else b).bs ρ k = if c then a.bs ρ k else b.bs ρ k := by split <;> rfl
theorem th_ite {c : Prop} [Decidable c] {a b : RS} {k : Sl → Mem → RS} : (if c then a else b).th k = if c then a.th k else b.th k := by split <;> rfl
theorem R.sat.bd {α β : Type} {r : R α} {k : α → Mem → R β} {Φ : β → Mem → Prop} {Ξ : XM} (h : (r.bd k).sat Φ Ξ) {Ψ : α → Mem → Prop} (i : ∀ a M, (k a M).sat Φ Ξ → Ψ a M) : r.sat Ψ Ξ := by
  cases r with
  | ok a M => exact i a M h
  | xc c fo M => exact h
  | bad => exact h
theorem RS.sat.bs {α : Type} {r : R α} {ρ : Sl} {k : α → Mem → RS} {Δ : Ed} (h : (r.bs ρ k).sat Δ) {Ψ : α → Mem → Prop} (i : ∀ a M, (k a M).sat Δ → Ψ a M) : r.sat Ψ (fun c fo M' => Δ.xn c fo ρ M') := by
  cases r with
  | ok a M => exact i a M h
  | xc c fo M => exact h
  | bad => exact h
theorem R.sat.imp {α : Type} {r : R α} {Φ Ψ : α → Mem → Prop} {Ξ Ξ' : XM} (h : r.sat Φ Ξ) (i : ∀ a M, Φ a M → Ψ a M) (j : ∀ c fo M, Ξ c fo M → Ξ' c fo M) : r.sat Ψ Ξ' := by
  cases r with
  | ok a M => exact i a M h
  | xc c fo M => exact j c fo M h
  | bad => exact h
theorem RS.sat.imp {r : RS} {Δ Δ' : Ed} (h : r.sat Δ) (nx : ∀ ρ M, Δ.nx ρ M → Δ'.nx ρ M) (rt : ∀ d M, Δ.rt d M → Δ'.rt d M) (bk : ∀ ρ M, Δ.bk ρ M → Δ'.bk ρ M) (ct : ∀ ρ M, Δ.ct ρ M → Δ'.ct ρ M) (xn : ∀ c f ρ M, Δ.xn c f ρ M → Δ'.xn c f ρ M) : r.sat Δ' := by
  cases r with
  | nx ρ M => exact nx _ _ h
  | rt d M => exact rt _ _ h
  | bk ρ M => exact bk _ _ h
  | ct ρ M => exact ct _ _ h
  | xc c fo ρ M => exact xn _ _ _ _ h
  | bad => exact h
def opt (o : Option D) (M : Mem) : R D := match o with
  | some d => .ok d M
  | none => .bad
theorem opt_some {d : D} {M : Mem} : opt (some d) M = .ok d M := rfl
def R.nox {α : Type} : R α → R α
  | .xc _ _ _ => .bad
  | r => r
theorem nox_ok {α : Type} {a : α} {M : Mem} : (R.ok a M).nox = .ok a M := rfl
abbrev YE := Sl → Mem → R D
abbrev YA := Sl → Mem → R (List D)
abbrev YT := Sl → Mem → R Bool
abbrev YS := Sl → Mem → RS
def OkE (K : PySem.W.Frag) (W : WX) (te : TE) (y : YE) : Prop := ∀ ρ M Φ Ξ, (y ρ M).sat Φ (fun c fo M' => Ξ c fo ρ M') → EW K W te ρ M Φ Ξ
def OkA (K : PySem.W.Frag) (W : WX) (te : TA) (y : YA) : Prop := ∀ ρ M Φ Ξ, (y ρ M).sat Φ (fun c fo M' => Ξ c fo ρ M') → EA K W te ρ M Φ Ξ
def OkT (K : PySem.W.Frag) (W : WX) (te : TT) (y : YT) : Prop := ∀ ρ M Φ Ξ, (y ρ M).sat Φ (fun c fo M' => Ξ c fo ρ M') → ET K W te ρ M Φ Ξ
def OkS (K : PySem.W.Frag) (W : WX) (te : TS) (y : YS) : Prop := ∀ ρ M Δ, (y ρ M).sat Δ → SW K W te ρ M Δ
def OkO (K : PySem.W.Frag) (r : R2) (o : D → D → Mem → Option D) : Prop := ∀ x y M d Φ, o x y M = some d → Φ d M → OpZ K r x y M Φ
def OkU (K : PySem.W.Frag) (r : V → Hp → VK → Prop) (o : D → Mem → Option D) : Prop := ∀ x M d Φ, o x M = some d → Φ d M → UnZ K r x M Φ
def OkC (K : PySem.W.Frag) (r : List V → Hp → VK → Prop) (o : List D → Mem → Option (D × Mem)) : Prop := ∀ xs M d M' Φ, o xs M = some (d, M') → Φ d M' → CbZ K r xs M Φ
def OkM (K : PySem.W.Frag) (T : String) (r : V → List V → Hp → VK → Prop) (ty : D → Mem → Bool) (o : D → List D → Mem → Option (D × Mem)) : Prop := (∀ x M, ty x M = true → TyZ K T x M) ∧ ∀ x xs M d M' Φ, o x xs M = some (d, M') → Φ d M' → MtZ K r x xs M Φ
def OkOR (K : PySem.W.Frag) (r : R2) (o : D → D → Mem → R D) : Prop := ∀ x y M Φ, (o x y M).sat Φ (fun _ _ _ => False) → OpZ K r x y M Φ
def y_var (i : Nat) : YE := fun ρ M => match ρ[i]? with
  | some (some d) => .ok d M
  | _ => .bad
def y_c (d : D) : YE := fun _ M => .ok d M
def y_un (o : D → Mem → Option D) (a : YE) : YE := fun ρ M => (a ρ M).bd fun x M1 => opt (o x M1) M1
def y_op (o : D → D → Mem → Option D) (a b : YE) : YE := fun ρ M => (a ρ M).bd fun x M1 => (b ρ M1).bd fun y M2 => opt (o x y M2) M2
def y_opR (o : D → D → Mem → R D) (a b : YE) : YE := fun ρ M => (a ρ M).bd fun x M1 => (b ρ M1).bd fun y M2 => (o x y M2).nox
def optM (o : Option (D × Mem)) : R D := match o with
  | some (d, M) => .ok d M
  | none => .bad
theorem optM_some {d : D} {M : Mem} : optM (some (d, M)) = .ok d M := rfl
def y_cb (o : List D → Mem → Option (D × Mem)) (a : YA) : YE := fun ρ M => (a ρ M).bd fun xs M1 => optM (o xs M1)
def y_cbR (o : List D → Mem → R D) (a : YA) : YE := fun ρ M => (a ρ M).bd fun xs M1 => (o xs M1).nox
def y_bm (ty : D → Mem → Bool) (o : D → List D → Mem → Option (D × Mem)) (a : YE) (b : YA) : YE := fun ρ M => (a ρ M).bd fun x M1 => if ty x M1 = true then (b ρ M1).bd fun xs M2 => optM (o x xs M2) else .bad
def y_not (a : YE) : YE := fun ρ M => (a ρ M).bd fun x M1 => match x with
  | .bl b => .ok (.bl (!b)) M1
  | _ => .bad
def y_isN (a : YE) : YE := fun ρ M => (a ρ M).bd fun x M1 => .ok (.bl (isNon x)) M1
def y_notN (a : YE) : YE := fun ρ M => (a ρ M).bd fun x M1 => .ok (.bl (!isNon x)) M1
def y_and (a b : YE) : YE := fun ρ M => (a ρ M).bd fun x M1 => match x with
  | .bl c => if c = true then b ρ M1 else .ok (.bl false) M1
  | _ => .bad
def y_or (a b : YE) : YE := fun ρ M => (a ρ M).bd fun x M1 => match x with
  | .bl c => if c = true then .ok (.bl true) M1 else b ρ M1
  | _ => .bad
def y_ife (t : YT) (a b : YE) : YE := fun ρ M => (t ρ M).bd fun c M1 => if c = true then a ρ M1 else b ρ M1
def y_tup (a : YA) : YE := fun ρ M => (a ρ M).bd fun xs M1 => if xs.length ≤ 16777216 then .ok (.tup xs) M1 else .bad
def y_lst (a : YA) : YE := fun ρ M => (a ρ M).bd fun xs M1 => if xs.length ≤ 16777216 then .ok (.lst xs) M1 else .bad
def y_lstM (a : YA) : YE := fun ρ M => (a ρ M).bd fun xs M1 => if xs.length ≤ 16777216 then .ok (.ref M1.length) (M1 ++ [.lst xs]) else .bad
def y_dkM : YE := fun _ M => .ok (.ref M.length) (M ++ [.dK []])
def y_dtM : YE := fun _ M => .ok (.ref M.length) (M ++ [.dT []])
def insC (M : Mem) (x : D) (C : Addr) : Option (List (Str × D)) := match x with
  | .ref n => (match M[n]? with
    | some (.ins C' fs) => if C' = C then some fs else none
    | _ => none)
  | _ => none
def y_fld (C : Addr) (f : Str) (a : YE) : YE := fun ρ M => (a ρ M).bd fun x M1 => match (insC M1 x C).bind (fun fs => fs.lookup f) with
  | some d => .ok d M1
  | none => .bad
def getD (M : Mem) (x y : D) : Option (Option D) := match dkD M x, keyOf y with
  | some kvs, some k => some (valD kvs k)
  | _, _ => (match dtD M x, tkOf y with
    | some kvs, some k => some (valD kvs k)
    | _, _ => none)
def y_dget (a b : YE) : YE := fun ρ M => (a ρ M).bd fun x M1 => (b ρ M1).bd fun y M2 => match getD M2 x y with
  | some (some d) => .ok d M2
  | _ => .bad
def y_dget1 (a b : YE) : YE := fun ρ M => (a ρ M).bd fun x M1 => if (dkD M1 x).isSome || (dtD M1 x).isSome then (b ρ M1).bd fun y M2 => match getD M2 x y with
  | some r => .ok (r.getD .non) M2
  | _ => .bad else .bad
def y_din (a b : YE) : YE := fun ρ M => (a ρ M).bd fun y M1 => (b ρ M1).bd fun x M2 => match getD M2 x y with
  | some r => .ok (.bl r.isSome) M2
  | _ => .bad
def y_dnotin (a b : YE) : YE := fun ρ M => (a ρ M).bd fun y M1 => (b ρ M1).bd fun x M2 => match getD M2 x y with
  | some r => .ok (.bl (!r.isSome)) M2
  | _ => .bad
def y_lvals (a : YE) : YE := fun ρ M => (a ρ M).bd fun x M1 => match dkD M1 x with
  | some kvs => .ok (.lst (kvs.map (·.2))) M1
  | _ => .bad
def y_chain (o o' : D → D → Mem → Option D) (a b c : YE) : YE := fun ρ M => (a ρ M).bd fun x M1 => (b ρ M1).bd fun y M2 => match o x y M2 with
  | some (.bl k) => if k = true then (c ρ M2).bd fun z M3 => opt (o' y z M3) M3 else .ok (.bl false) M2
  | _ => .bad
abbrev YO := Sl → Mem → R (Option Int)
def OkP (K : PySem.W.Frag) (W : WX) (to : TO) (y : YO) : Prop := ∀ ρ M Φ Ξ, (y ρ M).sat Φ (fun c fo M' => Ξ c fo ρ M') → EO K W to ρ M Φ Ξ
def y_pn : YO := fun _ M => .ok none M
def y_ps (a : YE) : YO := fun ρ M => (a ρ M).bd fun x M1 => match x with
  | .int i => .ok (some i) M1
  | _ => .bad
def slD (x : D) (lo hi : Option Int) (M : Mem) : Option D := match x with
  | .tup ds => some (.tup (cutD ds lo hi))
  | .kt _ => none
  | .str z => if z.length ≤ 16777216 then some (.str (cutS z lo hi)) else none
  | x => (asS M x).map fun ds => .lst (cutD ds lo hi)
def y_sl (a : YE) (l h : YO) : YE := fun ρ M => (a ρ M).bd fun x M1 => (l ρ M1).bd fun lo M2 => (h ρ M2).bd fun hi M3 => opt (slD x lo hi M3) M3
def y_rev (a : YE) : YE := fun ρ M => (a ρ M).bd fun x M1 => match asL M1 x with
  | some ds => .ok (.lst ds.reverse) M1
  | none => .bad
def y_slS (a : YE) (l h : YO) : YE := fun ρ M => (a ρ M).bd fun x M1 => (l ρ M1).bd fun lo M2 => (h ρ M2).bd fun st M3 => match asL M3 x with
  | some xs => if st ≠ some 0 then .ok (.lst (pickL xs lo none st)) M3 else .bad
  | none => .bad
def y_nil : YA := fun _ M => .ok [] M
def y_cons (a : YE) (b : YA) : YA := fun ρ M => (a ρ M).bd fun x M1 => (b ρ M1).bd fun xs M2 => .ok (x :: xs) M2
def y_star (a : YE) (b : YA) : YA := fun ρ M => (a ρ M).bd fun x M1 => match asS M1 x with
  | some ys => (b ρ M1).bd fun xs M2 => .ok (ys ++ xs) M2
  | none => .bad
def y_t (a : YE) : YT := fun ρ M => (a ρ M).bd fun x M1 => match x with
  | .bl b => .ok b M1
  | _ => .bad
def y_tnot (a : YT) : YT := fun ρ M => (a ρ M).bd fun b M1 => .ok (!b) M1
def y_tand (a b : YT) : YT := fun ρ M => (a ρ M).bd fun c M1 => if c = true then b ρ M1 else .ok false M1
def y_tor (a b : YT) : YT := fun ρ M => (a ρ M).bd fun c M1 => if c = true then .ok true M1 else b ρ M1
def y_yes : YT := fun _ M => .ok true M
def spR (f : List D → Mem → R D) : DSp := fun ds M Φ Ξ => (f ds M).sat Φ Ξ
def y_call (f : List D → Mem → R D) (a : YA) : YE := fun ρ M => (a ρ M).bd f
def y_make (C : Addr) (f : List D → Mem → R D) (es : List D) (a : YA) : YE := fun ρ M => (a ρ M).bd fun ds M1 => (f (.ref M1.length :: (ds ++ es)) (M1 ++ [.ins C []])).bd fun d M2 => match d with
  | .non => .ok (.ref M1.length) M2
  | _ => .bad
def y_meth (C : Addr) (m : Str) (f : List D → Mem → R D) (o : YE) (a : YA) : YE := fun ρ M => (o ρ M).bd fun x M1 => match insC M1 x C with
  | some fs => if m ∈ fs.map (·.1) then .bad else (a ρ M1).bd fun ds M2 => f (x :: ds) M2
  | none => .bad
def y_methN (C : Addr) (m : Str) (f : List D → Mem → R D) (o : YE) (a : YA) : YE := fun ρ M => (o ρ M).bd fun x M1 => match insC M1 x C with
  | some fs => if m ∈ fs.map (·.1) then .bad else (a ρ M1).bd fun ds M2 => (f (x :: ds) M2).nox
  | none => .bad
def y_cmeth (C : Addr) (f : List D → Mem → R D) (o : YE) (a : YA) : YE := fun ρ M => (o ρ M).bd fun x M1 => match x with
  | .glo C' => if C' = C then (a ρ M1).bd fun ds M2 => f (.glo C :: ds) M2 else .bad
  | _ => .bad
def y_smeth (C : Addr) (f : List D → Mem → R D) (o : YE) (a : YA) : YE := fun ρ M => (o ρ M).bd fun x M1 => match x with
  | .glo C' => if C' = C then (a ρ M1).bd f else .bad
  | _ => .bad
def y_prop (C : Addr) (f : List D → Mem → R D) (o : YE) : YE := fun ρ M => (o ρ M).bd fun x M1 => match insC M1 x C with
  | some _ => (f [x] M1).nox
  | none => .bad
def y_callO (C : Addr) (f : List D → Mem → R D) (o : YE) (a : YA) : YE := fun ρ M => (o ρ M).bd fun x M1 => match x with
  | .ref n => (a ρ M1).bd fun ds M2 => (match insC M2 (.ref n) C with
    | some _ => (f (.ref n :: ds) M2).nox
    | none => .bad)
  | _ => .bad
def y_subO (C : Addr) (f : List D → Mem → R D) (o a : YE) : YE := fun ρ M => (o ρ M).bd fun x M1 => (a ρ M1).bd fun y M2 => match insC M2 x C with
  | some _ => f [x, y] M2
  | none => .bad
def y_makeL (i : Nat) (C : Addr) (f : List D → Mem → R D) (es : List D) (a : YA) : YE := fun ρ M => match ρ[i]? with
  | some (some (.glo C')) => if C' = C then y_make C f es a ρ M else .bad
  | _ => .bad

section
variable {K : PySem.W.Frag} {W : WX} {ta tb tc te : TE} {tA tB' : TA} {tt tu : TT} {a b c : YE} {s t : YT} {xs : YA} {to th : TO} {lo hi : YO}
theorem k_var {i : Nat} : OkE K W (tVar i) (y_var i) := fun ρ M Φ Ξ h => by
  unfold y_var at h
  cases e : ρ[i]? with
  | none => rw [e] at h; exact h.elim
  | some o => cases o with
    | none => rw [e] at h; exact h.elim
    | some d => rw [e] at h; exact ew_var e h
theorem k_c {v : V} {d : D} (h : ∀ w, Rep K w d v) : OkE K W (tC v) (y_c d) := fun ρ M Φ Ξ q => ew_const h q
theorem k_un {r : V → Hp → VK → Prop} {o : D → Mem → Option D} (ho : OkU K r o) (ha : OkE K W ta a) : OkE K W (tUn r ta) (y_un o a) := fun ρ M Φ Ξ h => ew_un (ha _ _ _ _ (h.bd fun x M1 h1 => by
  cases e : o x M1 with
  | none => rw [e] at h1; exact h1.elim
  | some d => rw [e] at h1; exact ho x M1 d _ e h1))
theorem k_op {r : R2} {o : D → D → Mem → Option D} (ho : OkO K r o) (ha : OkE K W ta a) (hb : OkE K W tb b) : OkE K W (tOp r ta tb) (y_op o a b) := fun ρ M Φ Ξ h => ew_op (ha _ _ _ _ (h.bd fun x M1 h1 => hb _ _ _ _ (h1.bd fun y M2 h2 => by
  cases e : o x y M2 with
  | none => rw [e] at h2; exact h2.elim
  | some d => rw [e] at h2; exact ho x y M2 d _ e h2)))
theorem nox_sat {α : Type} {r : R α} {Φ : α → Mem → Prop} {Ξ : XM} (h : r.nox.sat Φ Ξ) : r.sat Φ (fun _ _ _ => False) := by
  cases r with
  | ok a M => exact h
  | xc c fo M => exact h
  | bad => exact h
theorem k_opR {r : R2} {o : D → D → Mem → R D} (ho : OkOR K r o) (ha : OkE K W ta a) (hb : OkE K W tb b) : OkE K W (tOp r ta tb) (y_opR o a b) := fun ρ M Φ Ξ h => ew_op (ha _ _ _ _ (h.bd fun x M1 h1 => hb _ _ _ _ (h1.bd fun y M2 h2 => ho x y M2 _ (nox_sat h2))))
theorem k_cb {r : List V → Hp → VK → Prop} {o : List D → Mem → Option (D × Mem)} (ho : OkC K r o) (ha : OkA K W tA xs) : OkE K W (tCB r tA) (y_cb o xs) := fun ρ M Φ Ξ h => ew_cb (ha _ _ _ _ (h.bd fun x M1 h1 => by
  cases e : o x M1 with
  | none => rw [e] at h1; exact h1.elim
  | some d =>
    obtain ⟨d, M2⟩ := d
    rw [e] at h1
    exact ho x M1 d M2 _ e h1))
theorem k_bm {T : String} {r : V → List V → Hp → VK → Prop} {ty : D → Mem → Bool} {o : D → List D → Mem → Option (D × Mem)} (ho : OkM K T r ty o) (ha : OkE K W ta a) (hb : OkA K W tA xs) : OkE K W (tBM K T r ta tA) (y_bm ty o a xs) := fun ρ M Φ Ξ h => ew_bm (ha _ _ _ _ (h.bd fun x M1 h1 => by
  by_cases q : ty x M1 = true
  · rw [if_pos q] at h1
    refine ⟨ho.1 x M1 q, hb _ _ _ _ (h1.bd fun ys M2 h2 => ?_)⟩
    cases e : o x ys M2 with
    | none => rw [e] at h2; exact h2.elim
    | some d =>
      obtain ⟨d, M3⟩ := d
      rw [e] at h2
      exact ho.2 x ys M2 d M3 _ e h2
  · rw [if_neg q] at h1
    exact h1.elim))
theorem k_bm0 {T : String} {r : V → List V → Hp → VK → Prop} {ty : D → Mem → Bool} {o : D → List D → Mem → Option (D × Mem)} (ho : OkM K T r ty o) (ha : OkE K W ta a) : OkE K W (tBM0 K T r ta) (y_bm ty o a y_nil) := fun ρ M Φ Ξ h => ew_bm0 (ha _ _ _ _ (h.bd fun x M1 h1 => by
  by_cases q : ty x M1 = true
  · rw [if_pos q] at h1
    refine ⟨ho.1 x M1 q, ?_⟩
    have h2 : (optM (o x [] M1)).sat Φ (fun c fo M' => Ξ c fo ρ M') := h1
    cases e : o x [] M1 with
    | none => rw [e] at h2; exact h2.elim
    | some d =>
      obtain ⟨d, M3⟩ := d
      rw [e] at h2
      exact ho.2 x [] M1 d M3 _ e h2
  · rw [if_neg q] at h1
    exact h1.elim))
theorem k_ife (ht : OkT K W tt s) (ha : OkE K W ta a) (hb : OkE K W tb b) : OkE K W (tIf tt ta tb) (y_ife s a b) := fun ρ M Φ Ξ h => ew_if (ht _ _ _ _ (h.bd fun x M1 h1 => ⟨fun e => ha _ _ _ _ (by subst e; exact h1), fun e => hb _ _ _ _ (by subst e; exact h1)⟩))
theorem ifsat {α : Type} {c : Prop} {ic : Decidable c} {r : R α} {Φ : α → Mem → Prop} {Ξ : XM} (h : (if c then r else .bad).sat Φ Ξ) : c ∧ r.sat Φ Ξ := by
  by_cases e : c
  · rw [if_pos e] at h
    exact ⟨e, h⟩
  · rw [if_neg e] at h
    exact h.elim
theorem k_tup (ha : OkA K W tA xs) : OkE K W (tTup tA) (y_tup xs) := fun ρ M Φ Ξ h => ew_tup (ha _ _ _ _ (h.bd fun x M1 h1 => by
  obtain ⟨q1, q2⟩ := ifsat h1
  exact ⟨by rw [sizeLine_eq]; exact q1, q2⟩))
theorem k_lst (ha : OkA K W tA xs) : OkE K W (tLst tA) (y_lst xs) := fun ρ M Φ Ξ h => ew_lst (ha _ _ _ _ (h.bd fun x M1 h1 => by
  obtain ⟨q1, q2⟩ := ifsat h1
  exact ⟨by rw [sizeLine_eq]; exact q1, q2⟩))
theorem k_lstM (ha : OkA K W tA xs) : OkE K W (tLstM tA) (y_lstM xs) := fun ρ M Φ Ξ h => ew_lstM (ha _ _ _ _ (h.bd fun x M1 h1 => by
  obtain ⟨q1, q2⟩ := ifsat h1
  exact ⟨by rw [sizeLine_eq]; exact q1, q2⟩))
theorem insC_ok {C : Addr} {M : Mem} {x : D} {fs : List (Str × D)} (h : insC M x C = some fs) : ∃ n, x = .ref n ∧ M[n]? = some (.ins C fs) := by
  unfold insC at h
  cases x with
  | ref n =>
    dsimp only at h
    split at h
    · next C' fs' e =>
      split at h
      · next eC =>
        cases h
        subst eC
        exact ⟨n, rfl, e⟩
      · cases h
    · cases h
  | _ => cases h
theorem k_fld {C : Addr} {f : Str} (cl : Cls K C) (na : NoAttr K C f) (ha : OkE K W ta a) : OkE K W (tFld K ta f) (y_fld C f a) := fun ρ M Φ Ξ h => ew_fldL (ha _ _ _ _ (h.bd fun x M1 h1 => by
  split at h1
  · next d e =>
    obtain ⟨fs, e1, e2⟩ := Option.bind_eq_some_iff.mp e
    obtain ⟨n, rfl, e3⟩ := insC_ok e1
    exact ⟨n, C, fs, d, rfl, e3, cl, na, e2, h1⟩
  · exact h1.elim))
theorem k_pn : OkP K W tNoPart y_pn := fun ρ M Φ Ξ h => eo_none h
theorem k_ps (ha : OkE K W ta a) : OkP K W (tPart ta) (y_ps a) := fun ρ M Φ Ξ h => eo_some (ha _ _ _ _ (h.bd fun x M1 h1 => by
  cases x with
  | int i => exact ⟨i, rfl, h1⟩
  | _ => exact h1.elim))
theorem slD_ok {x d : D} {lo hi : Option Int} {M : Mem} {Φ : D → Mem → Prop} (e : slD x lo hi M = some d) (q : Φ d M) : SlZ K (rSlZ K) x lo hi M Φ := by
  unfold slD at e
  cases x with
  | tup ds =>
    cases e
    exact sz_tup q
  | kt ds => cases e
  | str z =>
    dsimp only at e
    split at e
    · next hz =>
      cases e
      exact sz_str (by rw [sizeLine_eq]; exact hz) q
    · cases e
  | lst ds => cases e; exact sz_lst (x := .lst ds) rfl rfl q
  | fz ds => cases e; exact sz_lst (x := .fz ds) rfl rfl q
  | ref n =>
    obtain ⟨ds, e1, rfl⟩ := Option.map_eq_some_iff.mp e
    exact sz_lst e1 rfl q
  | _ => cases e
theorem k_sl (ha : OkE K W ta a) (hl : OkP K W to lo) (hh : OkP K W th hi) : OkE K W (tSl (rSlZ K) ta to th) (y_sl a lo hi) := fun ρ M Φ Ξ h => ew_sl (ha _ _ _ _ (h.bd fun x M1 h1 => hl _ _ _ _ (h1.bd fun y M2 h2 => hh _ _ _ _ (h2.bd fun z M3 h3 => by
  cases e : slD x y z M3 with
  | none => rw [e] at h3; exact h3.elim
  | some d => rw [e] at h3; exact slD_ok e h3))))
theorem k_nil : OkA K W tNil y_nil := fun ρ M Φ Ξ h => ea_nil h
theorem k_cons (ha : OkE K W ta a) (hb : OkA K W tA xs) : OkA K W (tCons ta tA) (y_cons a xs) := fun ρ M Φ Ξ h => ea_cons (ha _ _ _ _ (h.bd fun x M1 h1 => hb _ _ _ _ (h1.bd fun y M2 h2 => h2)))
theorem k_t (ha : OkE K W ta a) : OkT K W (tTest ta) (y_t a) := fun ρ M Φ Ξ h => et_test (ha _ _ _ _ (h.bd fun x M1 h1 => by
  cases x with
  | bl b => exact ⟨b, rfl, h1⟩
  | _ => exact h1.elim))
theorem k_tb (ha : OkE K W ta a) : OkT K W (tB ta) (y_t a) := fun ρ M Φ Ξ h => et_b (ha _ _ _ _ (h.bd fun x M1 h1 => by
  cases x with
  | bl b => exact ⟨b, rfl, h1⟩
  | _ => exact h1.elim))
theorem k_tnot (ha : OkT K W tt s) : OkT K W (tNot tt) (y_tnot s) := fun ρ M Φ Ξ h => et_not (ha _ _ _ _ (h.bd fun x M1 h1 => h1))
theorem k_tand (ha : OkT K W tt s) (hb : OkT K W tu t) : OkT K W (tAnd tt tu) (y_tand s t) := fun ρ M Φ Ξ h => et_and (ha _ _ _ _ (h.bd fun x M1 h1 => ⟨fun e => hb _ _ _ _ (by subst e; exact h1), fun e => by subst e; exact h1⟩))
theorem k_tor (ha : OkT K W tt s) (hb : OkT K W tu t) : OkT K W (tOr tt tu) (y_tor s t) := fun ρ M Φ Ξ h => et_or (ha _ _ _ _ (h.bd fun x M1 h1 => ⟨fun e => by subst e; exact h1, fun e => hb _ _ _ _ (by subst e; exact h1)⟩))
variable {f : List D → Mem → R D} {C : Addr} {m : Str} {Ef : XK} {es : List D} {dvs : List V}
theorem k_call (ha : OkA K W tA xs) : OkE K W (tCallSD (spOf K (spR f)) [] (WE W) tA) (y_call f xs) := fun ρ M Φ Ξ h => ew_call (ha _ _ _ _ (h.bd fun ds M1 h1 => h1))
def HE (K : PySem.W.Frag) (W : WX) (Ef : XK) : Prop := ∀ (ρ : Sl) (Ξ : XN) w0 σ0, XOK K W w0 Ξ → RepE K w0 ρ σ0 → ∀ cls fo w' M' d, Ext w0 w' → (∀ a, d = some a → w0.H a = none) → GM K w' M' → XdAt K w' d fo → Ξ cls fo ρ M' → Ef cls d w'.H
theorem he_WF {E : XK} : HE K (WF E) E := fun ρ Ξ => hE_WF
theorem mk_sat {r : R D} {Φ : D → Mem → Prop} {Ξ : XM} {n : Nat} (h : (r.bd fun d M2 => match d with | .non => .ok (.ref n) M2 | _ => .bad).sat Φ Ξ) : r.sat (fun d M2 => d = .non ∧ Φ (.ref n) M2) Ξ := h.bd fun d M2 h1 => by
  cases d with
  | non => exact ⟨rfl, h1⟩
  | _ => exact h1.elim
theorem k_make (hE : HE K W Ef) (hd : ∀ w, RepL K w es dvs) (ha : OkA K W tA xs) : OkE K W (tMake C (spOf K (spR f)) dvs Ef tA) (y_make C f es xs) := fun ρ M Φ Ξ h => ew_makeDv (hE ρ Ξ) hd (ha _ _ _ _ (h.bd fun ds M1 h1 => mk_sat h1))
theorem k_prop (ha : OkE K W ta a) : OkE K W (tProp C (spOf K (spR f)) [] E0 ta) (y_prop C f a) := fun ρ M Φ Ξ h => ew_prop (ha _ _ _ _ (h.bd fun x M1 h1 => by
  split at h1
  · next fs e =>
    obtain ⟨n, rfl, e1⟩ := insC_ok e
    exact ⟨n, fs, rfl, e1, nox_sat h1⟩
  · exact h1.elim))
end
end Z
namespace Z
open PySem PySem.Spec PyProof.Rows L2

def o_sub : D → D → Mem → Option D := fun x y _ => match x, y with
  | .int i, .int j => some (.int (i - j))
  | _, _ => none
def o_mul : D → D → Mem → Option D := fun x y _ => match x, y with
  | .int i, .int j => if (-(18446744073709551616) < i ∧ i < 18446744073709551616) ∨ (-(18446744073709551616) < j ∧ j < 18446744073709551616) then some (.int (i * j)) else none
  | _, _ => none
def o_mulS : D → D → Mem → Option D := fun x y _ => match x, y with
  | .str a, .int j => if 2 ≤ j ∧ j ≤ 10000 ∧ 1 ≤ a.length ∧ a.length ≤ 100 then some (.str (mulS j.toNat a)) else none
  | _, _ => none
def o_mod : D → D → Mem → Option D := fun x y _ => match x, y with
  | .int i, .int j => if 0 < j then some (.int (i % j)) else none
  | _, _ => none
def o_div : D → D → Mem → Option D := fun x y _ => match x, y with
  | .int i, .int j => if 0 < j ∧ j.natAbs.log2 < 9000 then some (.int (i / j)) else none
  | _, _ => none
def o_pow : D → D → Mem → Option D := fun x y _ => match x, y with
  | .int i, .int j => if 0 ≤ j ∧ j ≤ 1000000 ∧ i.natAbs < 18446744073709551616 then some (.int (i ^ j.toNat)) else none
  | _, _ => none
def o_lt : D → D → Mem → Option D := fun x y _ => match x, y with
  | .int i, .int j => some (.bl (decide (i < j)))
  | _, _ => none
def o_le : D → D → Mem → Option D := fun x y _ => match x, y with
  | .int i, .int j => some (.bl (decide (i ≤ j)))
  | _, _ => none
def o_gt : D → D → Mem → Option D := fun x y _ => match x, y with
  | .int i, .int j => some (.bl (decide (j < i)))
  | _, _ => none
def o_ge : D → D → Mem → Option D := fun x y _ => match x, y with
  | .int i, .int j => some (.bl (decide (j ≤ i)))
  | _, _ => none
def u_neg : D → Mem → Option D := fun x _ => match x with
  | .int i => some (.int (-i))
  | _ => none
def addD (x y : D) (M : Mem) : Option D := match asL M x, asL M y with
  | some xs, some ys => if xs.length + ys.length ≤ 16777216 then some (.lst (xs ++ ys)) else none
  | _, _ => none
def o_add : D → D → Mem → Option D := fun x y M => match x with
  | .int i => (match y with
    | .int j => some (.int (i + j))
    | _ => none)
  | .str a => (match y with
    | .str b => if a.length + b.length ≤ 16777216 then some (.str (a ++ b)) else none
    | _ => none)
  | .tup xs => (match y with
    | .tup ys => if xs.length + ys.length ≤ 16777216 then some (.tup (xs ++ ys)) else none
    | _ => none)
  | x => addD x y M
def eqG (M : Mem) (x y : D) : Option Bool := if dat 60 (xpN M 4 x) && dat 60 (xpN M 4 y) then some (PyData.eqv (pyd (xpN M 4 x)) (pyd (xpN M 4 y))) else none
def eqD (M : Mem) (x y : D) : Option Bool := match x, y with
  | .int i, .int j => some (decide (i = j))
  | .str a, .str b => some (decide (a = b))
  | .bl a, .bl b => some (a == b)
  | .tup xs, .tup [] => some xs.isEmpty
  | x, .lst [] => (match asL M x with
    | some xs => some xs.isEmpty
    | none => eqG M x (.lst []))
  | x, y => eqG M x y
def o_eq : D → D → Mem → Option D := fun x y M => (eqD M x y).map .bl
def o_ne : D → D → Mem → Option D := fun x y M => (eqD M x y).map fun b => .bl (!b)
def strsOf : List D → Option (List Str)
  | [] => some []
  | .str z :: r => (strsOf r).map (z :: ·)
  | _ :: _ => none
def o_neSs : D → D → Mem → Option D := fun x y M => match (asL M x).bind strsOf, (asL M y).bind strsOf with
  | some a, some b => some (.bl (!decide (a = b)))
  | _, _ => none
def o_in (neg : Bool) : D → D → Mem → Option D := fun x y M => match flat? x, (asS M y).bind flats? with
  | some u, some us => some (.bl (if neg then !inV u us else inV u us))
  | _, _ => none
def inDD (M : Mem) (x y : D) : Option Bool := match asL M y with
  | some ys => if dat 60 (xpN M 0 x) && ys.all (dat 60) then some (ys.any fun z => PyData.eqv (pyd z) (pyd x)) else none
  | none => none
def o_inD : D → D → Mem → Option D := fun x y M => (inDD M x y).map .bl
def o_notInD : D → D → Mem → Option D := fun x y M => (inDD M x y).map fun b => .bl (!b)
def o_inS (neg : Bool) : D → D → Mem → Option D := fun x y _ => match x, y with
  | .str a, .str z => (match a.cps.toList with
    | [c] => some (.bl (if neg then !decide (c ∈ z.cps.toList) else decide (c ∈ z.cps.toList)))
    | _ => none)
  | _, _ => none
def o_ix : D → D → Mem → Option D := fun x y M => match y with
  | .int i => (match x with
    | .str z => if z.length ≤ 16777216 then (atI z.cps.toList i).map fun c => .str ⟨#[c]⟩ else none
    | x => (asS M x).bind fun ds => atI ds i)
  | _ => none
def c_len : List D → Mem → Option (D × Mem) := fun xs M => match xs with
  | [.str z] => if z.length ≤ 16777216 then some (.int (z.length : Int), M) else none
  | [x] => (asS M x).map fun ds => (.int (ds.length : Int), M)
  | _ => none
def c_lenK : List D → Mem → Option (D × Mem) := fun xs M => match xs with
  | [x] => (dkD M x).map fun ds => (.int (ds.length : Int), M)
  | _ => none
def c_lenT : List D → Mem → Option (D × Mem) := fun xs M => match xs with
  | [.ref n] => (match M[n]? with
    | some (.dT kvs) => some (.int (kvs.length : Int), M)
    | _ => none)
  | _ => none
def c_int : List D → Mem → Option (D × Mem) := fun xs M => match xs with
  | [.int i] => some (.int i, M)
  | [.bl b] => some (.int (if b then 1 else 0), M)
  | _ => none
def c_intT : List D → Mem → Option (D × Mem) := fun xs M => match xs with
  | [.str a] => if a.length ≤ 640 then (PySem.intText? a).map fun n => (.int n, M) else none
  | _ => none
def c_strI : List D → Mem → Option (D × Mem) := fun xs M => match xs with
  | [.int i] => if i.natAbs.log2 < 1920 then some (.str (toString i), M) else none
  | _ => none
def c_abs : List D → Mem → Option (D × Mem) := fun xs M => match xs with
  | [.int i] => some (.int (if i < 0 then -i else i), M)
  | _ => none
def c_max2 : List D → Mem → Option (D × Mem) := fun xs M => match xs with
  | [.int i, .int j] => some (.int (if j > i then j else i), M)
  | _ => none
def c_min2 : List D → Mem → Option (D × Mem) := fun xs M => match xs with
  | [.int i, .int j] => some (.int (if j < i then j else i), M)
  | _ => none
def isKt : D → Bool
  | .kt _ => true
  | _ => false
def c_tup : List D → Mem → Option (D × Mem) := fun xs M => match xs with
  | [x] => if isKt x then none else (asS M x).map fun ds => (.tup ds, M)
  | _ => none
def c_lst : List D → Mem → Option (D × Mem) := fun xs M => match xs with
  | [x] => (asS M x).map fun ds => (.lst ds, M)
  | _ => none
def c_lstM : List D → Mem → Option (D × Mem) := fun xs M => match xs with
  | [x] => (asS M x).map fun ds => (.ref M.length, M ++ [.lst ds])
  | _ => none
def blsOf : List D → Option (List Bool)
  | [] => some []
  | .bl b :: r => (blsOf r).map (b :: ·)
  | _ :: _ => none
def c_all : List D → Mem → Option (D × Mem) := fun xs M => match xs with
  | [x] => ((asL M x).bind blsOf).map fun bs => (.bl (bs.all id), M)
  | _ => none
def c_any : List D → Mem → Option (D × Mem) := fun xs M => match xs with
  | [x] => ((asL M x).bind blsOf).map fun bs => (.bl (bs.any id), M)
  | _ => none
def tyN (M : Mem) (x : D) : Option String := match tyD M x with
  | some (.type t) => some t
  | _ => none
def isTy (t n : String) : Bool := t == n || (t == "bool" && n == "int")
def c_isi : List D → Mem → Option (D × Mem) := fun xs M => match xs with
  | [x, .ty n] => (match tyN M x with
    | some t => if bTys.contains t && bTys.contains n then some (.bl (isTy t n), M) else none
    | none => none)
  | _ => none
open Classical in
noncomputable def sortedD (M : Mem) (x : D) : Option (List D) := match asL M x with
  | some ds => if (∀ d ∈ ds, dat 16 d = true) ∧ PySem.W.AllAlike (ds.map pyd) ∧ PySem.W.Sortable (ds.map pyd) ∧ ds.length ≤ 16777216 then some (sortD ds) else none
  | none => none
noncomputable def c_sorted : List D → Mem → Option (D × Mem) := fun xs M => match xs with
  | [x] => (sortedD M x).map fun ds => (.lst ds, M)
  | _ => none
noncomputable def c_sortM : List D → Mem → Option (D × Mem) := fun xs M => match xs with
  | [x] => (sortedD M x).map fun ds => (.ref M.length, M ++ [.lst ds])
  | _ => none
def maxI : List Int → Int
  | [] => 0
  | [i] => i
  | i :: r => max i (maxI r)
def c_maxL : List D → Mem → Option (D × Mem) := fun xs M => match xs with
  | [x] => ((asL M x).bind intsOf).bind fun ns => if ns.isEmpty then none else some (.int (maxI ns), M)
  | _ => none
def ty_l (x : D) (M : Mem) : Bool := (asL M x).isSome
def m_append : D → List D → Mem → Option (D × Mem) := fun x xs M => match x, xs with
  | .ref h, [y] => (match M[h]? with
    | some (.lst ds) => if ds.length < 16777216 then some (.non, M.set h (.lst (ds ++ [y]))) else none
    | _ => none)
  | _, _ => none
def m_extend : D → List D → Mem → Option (D × Mem) := fun x xs M => match x, xs with
  | .ref h, [y] => (match M[h]?, asL M y with
    | some (.lst ds), some es => if ds.length + es.length ≤ 16777216 then some (.non, M.set h (.lst (ds ++ es))) else none
    | _, _ => none)
  | _, _ => none
def m_split : D → List D → Mem → Option (D × Mem) := fun x xs M => match x, xs with
  | .str a, [.str b] => if (b.length == 0) = false ∧ a.length + 2 ≤ 16777216 then some (.lst ((Txt.split a b).map D.str), M) else none
  | _, _ => none
def m_join : D → List D → Mem → Option (D × Mem) := fun x xs M => match x, xs with
  | .str a, [y] => ((asS M y).bind strsOf).bind fun ys => if (ys.map (·.length)).sum + ys.length * a.length ≤ 16777216 then some (.str (Txt.join a ys), M) else none
  | _, _ => none
section
variable {K : PySem.W.Frag}
theorem ko_sub : OkO K (rI0 fun i j => .int (i - j)) o_sub := fun x y M d Φ e q => by
  unfold o_sub at e; split at e <;> cases e; exact oz_sub q
theorem ko_lt : OkO K (rI0 fun i j => .bl (decide (i < j))) o_lt := fun x y M d Φ e q => by
  unfold o_lt at e; split at e <;> cases e; exact oz_lt q
theorem ko_gt : OkO K (rI0 fun i j => .bl (decide (i > j))) o_gt := fun x y M d Φ e q => by
  unfold o_gt at e; split at e <;> cases e; exact oz_gt q
theorem ko_ge : OkO K (rI0 fun i j => .bl (decide (i ≥ j))) o_ge := fun x y M d Φ e q => by
  unfold o_ge at e; split at e <;> cases e; exact oz_ge q
theorem ko_mul : OkO K (rI CMul fun i j => .int (i * j)) o_mul := fun x y M d Φ e q => by
  unfold o_mul at e
  split at e
  · split at e
    · next h => cases e; exact oz_mul h q
    · cases e
  · cases e
theorem ko_mod : OkO K (rI (fun _ j => 0 < j) fun i j => .int (i % j)) o_mod := fun x y M d Φ e q => by
  unfold o_mod at e
  split at e
  · split at e
    · next h => cases e; exact oz_mod h q
    · cases e
  · cases e
theorem ko_div : OkO K (rI CDivW fun i j => .int (i / j)) o_div := fun x y M d Φ e q => by
  unfold o_div at e
  split at e
  · split at e
    · next h => cases e; exact oz_div h q
    · cases e
  · cases e
theorem ko_pow : OkO K (rI CPow fun i j => .int (i ^ j.toNat)) o_pow := fun x y M d Φ e q => by
  unfold o_pow at e
  split at e
  · split at e
    · next h => cases e; exact oz_pow h q
    · cases e
  · cases e
theorem ku_neg : OkU K (rU fun i => .int (-i)) u_neg := fun x M d Φ e q => by
  unfold u_neg at e; split at e <;> cases e; exact uz_neg q
theorem addD_ok {x y d : D} {M : Mem} {Φ : D → Mem → Prop} (e : addD x y M = some d) (q : Φ d M) : OpZ K (rAddZ K) x y M Φ := by
  unfold addD at e
  split at e
  · next xs ys h1 h2 =>
    split at e
    · next h =>
      cases e
      exact oz_addL h1 h2 (by rw [sizeLine_eq]; exact h) q
    · cases e
  · cases e
theorem ko_add : OkO K (rAddZ K) o_add := fun x y M d Φ e q => by
  unfold o_add at e
  split at e
  · split at e <;> cases e; exact oz_addI q
  · split at e
    · split at e
      · next h => cases e; exact oz_addS (by rw [sizeLine_eq]; exact h) q
      · cases e
    · cases e
  · split at e
    · split at e
      · next h => cases e; exact oz_addT (by rw [sizeLine_eq]; exact h) q
      · cases e
    · cases e
  · exact addD_ok e q
theorem eqG_ok {x y : D} {M : Mem} {b : Bool} (e : eqG M x y = some b) : ∃ p q, pd (xpN M 4 x) = some p ∧ pd (xpN M 4 y) = some q ∧ SeqAt.shaped p = true ∧ SeqAt.shaped q = true ∧ PyData.eqv p q = b := by
  unfold eqG at e
  split at e
  · next h =>
    obtain ⟨h1, h2⟩ := He.ba h
    cases e
    exact ⟨_, _, (dat_pd h1).1, (dat_pd h2).1, (dat_pd h1).shaped (by decide), (dat_pd h2).shaped (by decide), rfl⟩
  · cases e
theorem eqD_ok {x y : D} {M : Mem} {b : Bool} (e : eqD M x y = some b) : (∀ Φ : D → Mem → Prop, Φ (.bl b) M → OpZ K (rEqZ K) x y M Φ) ∧ (∀ Φ : D → Mem → Prop, Φ (.bl (!b)) M → OpZ K (rNeZ K) x y M Φ) := by
  have gen : ∀ x y : D, eqG M x y = some b → (∀ Φ : D → Mem → Prop, Φ (.bl b) M → OpZ K (rEqZ K) x y M Φ) ∧ (∀ Φ : D → Mem → Prop, Φ (.bl (!b)) M → OpZ K (rNeZ K) x y M Φ) := fun x y e => by
    obtain ⟨p, q, h1, h2, h3, h4, h5⟩ := eqG_ok e
    exact ⟨fun Φ z => oz_eqX 4 4 h1 h2 h3 h4 h5 z, fun Φ z => oz_neX 4 4 h1 h2 h3 h4 h5 z⟩
  unfold eqD at e
  split at e
  · cases e; exact ⟨fun Φ => oz_eqZI, fun Φ => oz_neZI⟩
  · cases e; exact ⟨fun Φ => oz_eqZS, fun Φ => oz_neZS⟩
  · cases e; exact ⟨fun Φ => oz_eqZB, fun Φ => oz_neZB⟩
  · cases e; exact ⟨fun Φ => oz_eqT0, fun Φ => oz_neT0⟩
  · split at e
    · next h => cases e; exact ⟨fun Φ => oz_eqNil h, fun Φ => oz_neNil h⟩
    · exact gen _ _ e
  · exact gen _ _ e
theorem ko_eq : OkO K (rEqZ K) o_eq := fun x y M d Φ e q => by
  unfold o_eq at e
  obtain ⟨b, h, rfl⟩ := Option.map_eq_some_iff.mp e
  exact (eqD_ok h).1 Φ q
theorem ko_ne : OkO K (rNeZ K) o_ne := fun x y M d Φ e q => by
  unfold o_ne at e
  obtain ⟨b, h, rfl⟩ := Option.map_eq_some_iff.mp e
  exact (eqD_ok h).2 Φ q
theorem ko_ix : OkO K (rIx K) o_ix := fun x y M d Φ e q => by
  unfold o_ix at e
  split at e
  · split at e
    · split at e
      · next h =>
        obtain ⟨c, h2, rfl⟩ := Option.map_eq_some_iff.mp e
        exact oz_ixStr (by rw [sizeLine_eq]; exact h) h2 q
      · cases e
    · obtain ⟨ds, h1, h2⟩ := Option.bind_eq_some_iff.mp e
      exact oz_ix h1 h2 q
  · cases e
theorem kc_len : OkC K (rLenZ K) c_len := fun xs M d M' Φ e q => by
  unfold c_len at e
  split at e
  · split at e
    · next h => cases e; exact cz_lenStr (by rw [sizeLine_eq]; exact h) q
    · cases e
  · obtain ⟨ds, h1, h2⟩ := Option.map_eq_some_iff.mp e
    cases h2
    exact cz_len h1 q
  · cases e
theorem kc_int : OkC K rIntZ c_int := fun xs M d M' Φ e q => by
  unfold c_int at e
  split at e
  · cases e; exact cz_int q
  · cases e; exact cz_intB q
  · cases e
theorem kc_abs : OkC K rAbsZ c_abs := fun xs M d M' Φ e q => by
  unfold c_abs at e; split at e <;> cases e; exact cz_abs q
theorem kc_max2 : OkC K rMax2Z c_max2 := fun xs M d M' Φ e q => by
  unfold c_max2 at e; split at e <;> cases e; exact cz_max2 q
theorem kc_min2 : OkC K rMin2Z c_min2 := fun xs M d M' Φ e q => by
  unfold c_min2 at e; split at e <;> cases e; exact cz_min2 q
theorem kc_tup : OkC K (rTupZ K) c_tup := fun xs M d M' Φ e q => by
  unfold c_tup at e
  split at e
  · split at e
    · cases e
    · next x h =>
      obtain ⟨ds, h1, h2⟩ := Option.map_eq_some_iff.mp e
      cases h2
      exact cz_tup h1 q (fun es z => h (by rw [z]; rfl))
  · cases e
theorem kc_lst : OkC K (rLstZ K) c_lst := fun xs M d M' Φ e q => by
  unfold c_lst at e
  split at e
  · obtain ⟨ds, h1, h2⟩ := Option.map_eq_some_iff.mp e
    cases h2
    exact cz_lst h1 q
  · cases e
theorem kc_lstM : OkC K (rLstMZ K) c_lstM := fun xs M d M' Φ e q => by
  unfold c_lstM at e
  split at e
  · obtain ⟨ds, h1, h2⟩ := Option.map_eq_some_iff.mp e
    cases h2
    exact cz_lstM h1 q
  · cases e
theorem tyN_ok {M : Mem} {x : D} {t : String} (h : tyN M x = some t) : tyD M x = some (.type t) := by
  unfold tyN at h
  split at h
  · next e => cases h; exact e
  · cases h
theorem tyl_ok {x : D} {M : Mem} (h : ty_l x M = true) : TyZ K "list" x M := by
  obtain ⟨ds, e⟩ := Option.isSome_iff_exists.mp h
  exact tz_list e
theorem km_append : OkM K "list" rAppend ty_l m_append := ⟨fun x M => tyl_ok, fun x xs M d M' Φ e q => by
  unfold m_append at e
  split at e
  · split at e
    · next h =>
      split at e
      · next h2 => cases e; exact mz_append h (by rw [sizeLine_eq]; exact h2) q
      · cases e
    · cases e
  · cases e⟩
end
def y_isiT (a b : String) (e : YE) : YE := fun ρ M => (e ρ M).bd fun x M1 => match tyN M1 x with
  | some t => if bTys.contains t && (bTys.contains a && bTys.contains b) then .ok (.bl (isTy t a || isTy t b)) M1 else .bad
  | none => .bad
def y_fmt (a : YE) : YE := fun ρ M => (a ρ M).bd fun x M1 => match x with
  | .str z => if z.length ≤ 16777216 then .ok (.str z) M1 else .bad
  | .int i => if i.natAbs.log2 < 1920 then .ok (.str (toString i)) M1 else .bad
  | _ => .bad
def jsL : List YE → Str → YE
  | [], acc, _, M => .ok (.str acc) M
  | t :: ts, acc, ρ, M => (t ρ M).bd fun x M1 => match x with
    | .str y => if (acc ++ y).length ≤ 16777216 then jsL ts (acc ++ y) ρ M1 else .bad
    | _ => .bad
def y_js (ts : List YE) : YE := jsL ts Str.empty
end Z
namespace Z
open PySem PySem.Spec PyProof.Rows L2

abbrev YG := D → Sl → Mem → Option (Sl × Mem)
abbrev YGs := List D → Sl → Mem → Option (Sl × Mem)
def OkG (K : PySem.W.Frag) (g : TG) (y : YG) : Prop := ∀ d ρ M ρ' M' Ψ, y d ρ M = some (ρ', M') → Ψ ρ' M' → GW K g d ρ M Ψ
def OkGs (K : PySem.W.Frag) (g : TGs) (y : YGs) : Prop := ∀ d ρ M ρ' M' Ψ, y d ρ M = some (ρ', M') → Ψ ρ' M' → GWs K g d ρ M Ψ
def g_nm (i : Nat) : YG := fun d ρ M => some (ρ.set i (some d), M)
def g_nil : YGs := fun ds ρ M => match ds with
  | [] => some (ρ, M)
  | _ => none
def g_cons (g : YG) (gs : YGs) : YGs := fun ds ρ M => match ds with
  | d :: r => (match g d ρ M with
    | some (ρ1, M1) => gs r ρ1 M1
    | none => none)
  | [] => none
def g_tup (n : Nat) (gs : YGs) : YG := fun d ρ M => match d with
  | .tup ds => if ds.length = n then gs ds ρ M else none
  | _ => none
def g_unl (n : Nat) (gs : YGs) : YG := fun d ρ M => match asL M d with
  | some ds => if ds.length = n then gs ds ρ M else none
  | none => none
def g_setL (a b : YE) : YG := fun d ρ M => match a ρ M with
  | .ok (.ref n) M1 => (match b ρ M1 with
    | .ok (.int k) M2 => (match M2[n]? with
      | some (.lst ds) => (ixN ds.length k).map fun j => (ρ, M2.set n (.lst (ds.set j d)))
      | _ => none)
    | _ => none)
  | _ => none
section
variable {K : PySem.W.Frag}
theorem kg_nm {i : Nat} : OkG K (gName i) (g_nm i) := fun d ρ M ρ' M' Ψ e q => by cases e; exact gw_name q
theorem kg_nil : OkGs K gNil g_nil := fun d ρ M ρ' M' Ψ e q => by
  cases d with
  | nil => cases e; exact gw_nil q
  | cons _ _ => cases e
theorem kg_cons {g : TG} {gs : TGs} {y : YG} {ys : YGs} (h : OkG K g y) (hs : OkGs K gs ys) : OkGs K (gCons g gs) (g_cons y ys) := fun d ρ M ρ' M' Ψ e q => by
  cases d with
  | nil => cases e
  | cons d r =>
    unfold g_cons at e
    dsimp only at e
    split at e
    · next ρ1 M1 e1 => exact gw_cons (h d ρ M ρ1 M1 _ e1 (hs r ρ1 M1 ρ' M' Ψ e q))
    · cases e
theorem kg_tup {n : Nat} {gs : TGs} {ys : YGs} (hs : OkGs K gs ys) : OkG K (gTup K n gs) (g_tup n ys) := fun d ρ M ρ' M' Ψ e q => by
  cases d with
  | tup ds =>
    unfold g_tup at e
    dsimp only at e
    split at e
    · next hl => exact gw_tup hl (hs ds ρ M ρ' M' Ψ e q)
    · cases e
  | _ => cases e
theorem kg_setL {ta tb : TE} {a b : YE} (ha : OkE K W0 ta a) (hb : OkE K W0 tb b) : OkG K (gSub ta tb rSetL) (g_setL a b) := fun d ρ M ρ' M' Ψ e q => by
  unfold g_setL at e
  split at e
  · next n M1 e1 =>
    split at e
    · next k M2 e2 =>
      split at e
      · next ds e3 =>
        obtain ⟨j, e4, e5⟩ := Option.map_eq_some_iff.mp e
        cases e5
        refine gw_setL (W := W0) (Ξ := Ξ0) (fun _ => xok0) (ha _ _ _ _ ?_)
        rw [e1]
        refine hb _ _ _ _ ?_
        rw [e2]
        exact ⟨n, k, ds, j, rfl, rfl, e3, e4, q⟩
      · cases e
    · cases e
  · cases e
end
def y_nx : YS := fun ρ M => .nx ρ M
def y_seq (s t : YS) : YS := fun ρ M => (s ρ M).th t
def y_if (t : YT) (a b : YS) : YS := fun ρ M => (t ρ M).bs ρ fun c M1 => if c = true then a ρ M1 else b ρ M1
def y_ret (e : YE) : YS := fun ρ M => (e ρ M).bs ρ fun d M1 => .rt d M1
def y_retN : YS := fun _ M => .rt .non M
def y_drop (e : YE) : YS := fun ρ M => (e ρ M).bs ρ fun _ M1 => .nx ρ M1
def nxO : Option (Sl × Mem) → RS
  | some (ρ, M) => .nx ρ M
  | none => .bad
theorem nxO_some {ρ : Sl} {M : Mem} : nxO (some (ρ, M)) = .nx ρ M := rfl
def y_asg (e : YE) (g : YG) : YS := fun ρ M => (e ρ M).bs ρ fun d M1 => nxO (g d ρ M1)
def y_brk : YS := fun ρ M => .bk ρ M
def y_cnt : YS := fun ρ M => .ct ρ M
def y_par (i j : Nat) (a : YA) : YS := fun ρ M => (a ρ M).bs ρ fun ds M1 => match ds with
  | [x, y] => .nx ((ρ.set i (some x)).set j (some y)) M1
  | _ => .bad
def y_par3 (i j l : Nat) (a : YA) : YS := fun ρ M => (a ρ M).bs ρ fun ds M1 => match ds with
  | [x, y, z] => .nx (((ρ.set i (some x)).set j (some y)).set l (some z)) M1
  | _ => .bad
def y_setF (C : Addr) (f : Str) (o v : YE) : YS := fun ρ M => (v ρ M).bs ρ fun d M1 => (o ρ M1).bs ρ fun x M2 => match x with
  | .ref n => (match insC M2 (.ref n) C with
    | some fs => if fs.length < 1000 then .nx ρ (M2.set n (.ins C (putD f d fs))) else .bad
    | none => .bad)
  | _ => .bad
def y_dputK (o i v : YE) : YS := fun ρ M => (v ρ M).bs ρ fun d M1 => (o ρ M1).bs ρ fun x M2 => (i ρ M2).bs ρ fun y M3 => match x with
  | .ref n => (match M3[n]?, keyOf y with
    | some (.dK kvs), some k => if kvs.length < 16777216 then .nx ρ (M3.set n (.dK (putDk kvs k d))) else .bad
    | _, _ => .bad)
  | _ => .bad
def y_dputT (o i v : YE) : YS := fun ρ M => (v ρ M).bs ρ fun d M1 => (o ρ M1).bs ρ fun x M2 => (i ρ M2).bs ρ fun y M3 => match x with
  | .ref n => (match M3[n]?, tkOf y with
    | some (.dT kvs), some k => if kvs.length < 16777216 then .nx ρ (M3.set n (.dT (putDk kvs k d))) else .bad
    | _, _ => .bad)
  | _ => .bad
def y_ddel (o i : YE) : YS := fun ρ M => (o ρ M).bs ρ fun x M1 => (i ρ M1).bs ρ fun y M2 => match x with
  | .ref n => (match M2[n]? with
    | some (.dT kvs) => (match tkOf y with
      | some k => if (valD kvs k).isSome = true then .nx ρ (M2.set n (.dT (dropD kvs k))) else .bad
      | none => .bad)
    | _ => .bad)
  | _ => .bad
def y_augI (i : Nat) (o : Int → Int → Int) (e : YE) : YS := fun ρ M => match ρ[i]? with
  | some (some (.int a)) => (e ρ M).bs ρ fun d M1 => (match d with
    | .int b => .nx (ρ.set i (some (.int (o a b)))) M1
    | _ => .bad)
  | _ => .bad
def y_raise (C : Addr) (f : Str) (e : YE) : YS := fun ρ M => (e ρ M).bs ρ fun d M1 => .xc (.ref C) (some [(f, d)]) ρ M1
def y_setO (C : Addr) (f : List D → Mem → R D) (o i v : YE) : YS := fun ρ M => (v ρ M).bs ρ fun d M1 => (o ρ M1).bs ρ fun x M2 => (i ρ M2).bs ρ fun y M3 => match insC M3 x C with
  | some _ => (f [x, y, d] M3).bs ρ fun _ M4 => .nx ρ M4
  | none => .bad
section
variable {K : PySem.W.Frag} {W : WX} {te ta tb tv : TE} {tA : TA} {tt : TT} {ts us : TS} {a b e v : YE} {t : YT} {s u : YS} {xs : YA} {C : Addr}
theorem RS.sat.th {r : RS} {k : Sl → Mem → RS} {Δ : Ed} (h : (r.th k).sat Δ) {P : Sl → Mem → Prop} (i : ∀ ρ M, (k ρ M).sat Δ → P ρ M) : r.sat { Δ with nx := P } := by
  cases r with
  | nx ρ M => exact i ρ M h
  | rt d M => exact h
  | bk ρ M => exact h
  | ct ρ M => exact h
  | xc c fo ρ M => exact h
  | bad => exact h
theorem k_nx : OkS K W tNext y_nx := fun ρ M Δ h => sw_next h
theorem k_seq (hs : OkS K W ts s) (hu : OkS K W us u) : OkS K W (tSeq ts us) (y_seq s u) := fun ρ M Δ h => sw_seq (hs _ _ _ (h.th fun ρ1 M1 h1 => hu _ _ _ h1))
theorem k_if (ht : OkT K W tt t) (hs : OkS K W ts s) (hu : OkS K W us u) : OkS K W (tIfS tt ts us) (y_if t s u) := fun ρ M Δ h => sw_if (ht _ _ _ _ (h.bs fun c M1 h1 => ⟨fun e => hs _ _ _ (by subst e; exact h1), fun e => hu _ _ _ (by subst e; exact h1)⟩))
theorem k_ret (he : OkE K W te e) : OkS K W (tRet te) (y_ret e) := fun ρ M Δ h => sw_ret (he _ _ _ _ (h.bs fun d M1 h1 => h1))
theorem k_drop (he : OkE K W te e) : OkS K W (tDrop te) (y_drop e) := fun ρ M Δ h => sw_drop (he _ _ _ _ (h.bs fun d M1 h1 => h1))
theorem k_asg {g : TG} {y : YG} (hg : OkG K g y) (he : OkE K W te e) : OkS K W (tAsg te g) (y_asg e y) := fun ρ M Δ h => sw_asg (he _ _ _ _ (h.bs fun d M1 h1 => by
  cases q : y d ρ M1 with
  | none => rw [q] at h1; exact h1.elim
  | some p =>
    obtain ⟨ρ', M'⟩ := p
    rw [q] at h1
    exact hg d ρ M1 ρ' M' _ q h1))
theorem k_par {i j : Nat} (ha : OkA K W tA xs) : OkS K W (tPar i j tA) (y_par i j xs) := fun ρ M Δ h => sw_par (ha _ _ _ _ (h.bs fun ds M1 h1 => by
  split at h1
  · next x y => exact ⟨x, y, rfl, h1⟩
  · exact h1.elim))
theorem ifsatS {c : Prop} {ic : Decidable c} {r : RS} {Δ : Ed} (h : (if c then r else .bad).sat Δ) : c ∧ r.sat Δ := by
  by_cases e : c
  · rw [if_pos e] at h
    exact ⟨e, h⟩
  · rw [if_neg e] at h
    exact h.elim
theorem k_setF {f : Str} (cl : Cls K C) (na : NoAttr K C f) (ho : OkE K W ta a) (hv : OkE K W tv v) : OkS K W (sFld K ta tv f) (y_setF C f a v) := fun ρ M Δ h => sw_fld (hv _ _ _ _ (h.bs fun d M1 h1 => ho _ _ _ _ (h1.bs fun x M2 h2 => by
  cases x with
  | ref n =>
    dsimp only at h2
    split at h2
    · next fs e =>
      obtain ⟨n', e0, e1⟩ := insC_ok e
      cases e0
      obtain ⟨hl, h3⟩ := ifsatS h2
      exact ⟨n, C, fs, rfl, e1, cl, na, hl, h3⟩
    · exact h2.elim
  | _ => exact h2.elim)))
end
abbrev YI := Sl → Mem → R (List D × (Mem → Prop))
def OkI (K : PySem.W.Frag) (W : WX) (wi : TI) (y : YI) : Prop := ∀ ρ M Ψ Ξ, (y ρ M).sat (fun p M' => Ψ p.1 p.2 M') (fun c fo M' => Ξ c fo ρ M') → IW K W wi ρ M Ψ Ξ
def sgnsD (z : Str) : List D := z.cps.toList.map fun c => .str ⟨#[c]⟩
def gS (x : D) (ds : List D) (M' : Mem) : Prop := asS M' x = some ds
def gL (x : D) (ds : List D) (M' : Mem) : Prop := asL M' x = some ds
def gLL (x y : D) (xs ys : List D) (M' : Mem) : Prop := asL M' x = some xs ∧ asL M' y = some ys
def itD (M : Mem) (x : D) : Option (List D × (Mem → Prop)) := match x with
  | .str z => some (sgnsD z, fun _ => True)
  | x => (asS M x).map fun ds => (ds, gS x ds)
def i_any (e : YE) : YI := fun ρ M => (e ρ M).bd fun x M1 => match itD M1 x with
  | some p => .ok p M1
  | none => .bad
def i_rng1 (a : YA) : YI := fun ρ M => (a ρ M).bd fun ds M1 => match ds with
  | [.int j] => if -(4611686018427387904) ≤ j ∧ j < 4611686018427387904 then .ok (rngD 0 j.toNat, fun _ => True) M1 else .bad
  | _ => .bad
def i_rng2 (a : YA) : YI := fun ρ M => (a ρ M).bd fun ds M1 => match ds with
  | [.int i, .int j] => if -(4611686018427387904) ≤ i ∧ i < 4611686018427387904 ∧ -(4611686018427387904) ≤ j ∧ j < 4611686018427387904 then .ok (rngD i (j - i).toNat, fun _ => True) M1 else .bad
  | _ => .bad
def rng3D (i j c : Int) : Option (List D) := if i = 0 ∧ c = 2 ∧ 0 ≤ j ∧ j < 1000000 then some (rngC 0 2 ((j.toNat + 1) / 2)) else none
def i_rng3 (a : YA) : YI := fun ρ M => (a ρ M).bd fun ds M1 => match ds with
  | [.int i, .int j, .int c] => (match rng3D i j c with
    | some l => .ok (l, fun _ => True) M1
    | none => .bad)
  | _ => .bad
def i_enum (a : YA) : YI := fun ρ M => (a ρ M).bd fun ds M1 => match ds with
  | [x] => (match asL M1 x with
    | some xs => .ok (enumD 0 xs, gL x xs) M1
    | none => .bad)
  | _ => .bad
def i_zip (a : YA) : YI := fun ρ M => (a ρ M).bd fun ds M1 => match ds with
  | [x, y] => (match asL M1 x, asL M1 y with
    | some xs, some ys => .ok (zipD xs ys, gLL x y xs ys) M1
    | _, _ => .bad)
  | _ => .bad
section
variable {K : PySem.W.Frag} {W : WX} {te : TE} {tA : TA} {tt : TT} {wi : TI} {g : TG} {tb : TS} {e : YE} {xs : YA} {t : YT} {it : YI} {yg : YG} {b : YS}
theorem ki_any (he : OkE K W te e) : OkI K W (iAny K te) (i_any e) := fun ρ M Ψ Ξ h => by
  unfold i_any at h
  cases q : e ρ M with
  | bad => rw [q] at h; exact h.elim
  | xc c fo M1 =>
    refine iw_seq 0 (he _ _ _ _ ?_)
    rw [q] at h ⊢
    exact h
  | ok x M1 =>
    rw [q] at h
    have h1 : (match itD M1 x with | some p => R.ok p M1 | none => .bad).sat (fun p M' => Ψ p.1 p.2 M') (fun c fo M' => Ξ c fo ρ M') := h
    cases e2 : itD M1 x with
    | none => rw [e2] at h1; exact h1.elim
    | some p =>
      rw [e2] at h1
      have seq : (asS M1 x).map (fun ds => (ds, gS x ds)) = some p → IW K W (iAny K te) ρ M Ψ Ξ := fun e3 => by
        obtain ⟨ds, e4, e5⟩ := Option.map_eq_some_iff.mp e3
        subst e5
        refine iw_seq (sKind x) (he _ _ _ _ ?_)
        rw [q]
        exact ⟨rfl, ds, e4, h1⟩
      cases x with
      | str z =>
        cases e2
        refine iw_str (he _ _ _ _ ?_)
        rw [q]
        exact ⟨z, rfl, h1⟩
      | _ => exact seq e2
theorem ki_rng1 (ha : OkA K W tA xs) : OkI K W (iRng1 tA) (i_rng1 xs) := fun ρ M Ψ Ξ h => iw_rng1 (ha _ _ _ _ (h.bd fun ds M1 h1 => by
  split at h1
  · next j =>
    obtain ⟨q, h2⟩ := ifsat h1
    exact ⟨j, rfl, q.1, q.2, h2⟩
  · exact h1.elim))
open Classical in
noncomputable def forL (g : YG) (b : YS) (G : Mem → Prop) : List D → Sl → Mem → RS
  | [], ρ, M => if G M then .nx ρ M else .bad
  | d :: ds, ρ, M => if G M then (nxO (g d ρ M)).th (fun ρ1 M1 => match b ρ1 M1 with
    | .nx ρ2 M2 => forL g b G ds ρ2 M2
    | .ct ρ2 M2 => forL g b G ds ρ2 M2
    | .bk ρ2 M2 => .nx ρ2 M2
    | .rt d M2 => .rt d M2
    | .xc c fo ρ2 M2 => .xc c fo ρ2 M2
    | .bad => .bad) else .bad
noncomputable def y_for (it : YI) (g : YG) (b : YS) : YS := fun ρ M => (it ρ M).bs ρ fun p M1 => forL g b p.2 p.1 ρ M1
theorem forL_G {G : Mem → Prop} {ds : List D} {ρ : Sl} {M : Mem} {Δ : Ed} (h : (forL yg b G ds ρ M).sat Δ) : G M := by
  cases ds with
  | nil => unfold forL at h; exact (ifsatS h).1
  | cons d ds => unfold forL at h; exact (ifsatS h).1
theorem gw_nxO {d : D} {ρ : Sl} {M : Mem} {k : Sl → Mem → RS} {Δ : Ed} {Ψ : Sl → Mem → Prop} (hg : OkG K g yg) (h : ((nxO (yg d ρ M)).th k).sat Δ) (i : ∀ ρ1 M1, (k ρ1 M1).sat Δ → Ψ ρ1 M1) : GW K g d ρ M Ψ := by
  cases q : yg d ρ M with
  | none => rw [q] at h; exact h.elim
  | some p =>
    obtain ⟨ρ', M'⟩ := p
    rw [q] at h
    exact hg d ρ M ρ' M' _ q (i ρ' M' h)
theorem k_for (hi : OkI K W wi it) (hg : OkG K g yg) (hb : OkS K W tb b) : OkS K W (tFor wi g tb) (y_for it yg b) := fun ρ M Δ h => sw_for (hi _ _ _ _ (h.bs fun p M1 h1 => by
  obtain ⟨ds, G⟩ := p
  refine ⟨fun i ρ' M' => (forL yg b G (ds.drop i) ρ' M').sat Δ, h1, fun i ρ' M' q => forL_G q, fun i d ρ' M' hd q => ?_, fun ρ' M' q => ?_⟩
  all_goals dsimp only at q
  · have hi : i < ds.length := (List.getElem?_eq_some_iff.mp hd).1
    have e : ds.drop i = d :: ds.drop (i + 1) := by
      rw [List.drop_eq_getElem_cons hi]
      congr 1
      exact (List.getElem?_eq_some_iff.mp hd).2
    rw [e] at q
    unfold forL at q
    refine gw_nxO hg (ifsatS q).2 fun ρ1 M2 q2 => hb _ _ _ ?_
    cases z : b ρ1 M2 with
    | nx ρ2 M3 => rw [z] at q2; exact .inl q2
    | ct ρ2 M3 => rw [z] at q2; exact .inl q2
    | bk ρ2 M3 => rw [z] at q2; exact q2
    | rt d M3 => rw [z] at q2; exact q2
    | xc c fo ρ2 M3 => rw [z] at q2; exact q2
    | bad => rw [z] at q2; exact q2
  · rw [List.drop_length] at q
    unfold forL at q
    exact (ifsatS q).2))
def getO : Option (Sl × Mem) → R Sl
  | some (ρ, M) => .ok ρ M
  | none => .bad
theorem getO_some {ρ : Sl} {M : Mem} : getO (some (ρ, M)) = .ok ρ M := rfl
open Classical in
noncomputable def lcL (g : YG) (t : YT) (e : YE) (vs : List Nat) (ρ : Sl) (G : Mem → Prop) : List D → Mem → R (List D)
  | [], M => if G M then .ok [] M else .bad
  | d :: ds, M => if G M then (getO (g d (wipeZ ρ vs) M)).bd (fun ρ2 M2 => (t ρ2 M2).bd fun c M3 => if c = true then (e ρ2 M3).bd (fun y M4 => (lcL g t e vs ρ G ds M4).bd fun ys M5 => .ok (y :: ys) M5) else lcL g t e vs ρ G ds M3) else .bad
noncomputable def y_lc (it : YI) (g : YG) (t : YT) (e : YE) (vs : List Nat) : YE := fun ρ M => (it ρ M).bd fun p M1 => if p.1.length < 16777216 then (lcL g t e vs ρ p.2 p.1 M1).nox.bd fun ys M2 => .ok (.lst ys) M2 else .bad
noncomputable def y_lcM (it : YI) (g : YG) (t : YT) (e : YE) (vs : List Nat) : YE := fun ρ M => (it ρ M).bd fun p M1 => if p.1.length < 16777216 then (lcL g t e vs ρ p.2 p.1 M1).nox.bd fun ys M2 => if bndL M1.length ys then .ok (.ref M2.length) (M2 ++ [.lst ys]) else .bad else .bad
theorem lcL_G {vs : List Nat} {ρ : Sl} {G : Mem → Prop} {ds : List D} {M : Mem} {Φ : List D → Mem → Prop} {Ξ : XM} (h : (lcL yg t e vs ρ G ds M).sat Φ Ξ) : G M := by
  cases ds with
  | nil => unfold lcL at h; exact (ifsat h).1
  | cons d ds => unfold lcL at h; exact (ifsat h).1
theorem gw_getO {β : Type} {d : D} {ρ : Sl} {M : Mem} {k : Sl → Mem → R β} {Φ : β → Mem → Prop} {Ξ : XM} {Ψ : Sl → Mem → Prop} (hg : OkG K g yg) (h : ((getO (yg d ρ M)).bd k).sat Φ Ξ) (i : ∀ ρ1 M1, (k ρ1 M1).sat Φ Ξ → Ψ ρ1 M1) : GW K g d ρ M Ψ := by
  cases q : yg d ρ M with
  | none => rw [q] at h; exact h.elim
  | some p =>
    obtain ⟨ρ', M'⟩ := p
    rw [q] at h
    exact hg d ρ M ρ' M' _ q (i ρ' M' h)
theorem k_lc {vs : List Nat} (hv : WpOK g vs) (hi : OkI K W wi it) (hg : OkG K g yg) (ht : OkT K W0 tt t) (he : OkE K W0 te e) : OkE K W (tLc wi g tt te vs) (y_lc it yg t e vs) := fun ρ M Φ Ξ h => ew_lcG hv (hi _ _ _ _ (h.bd fun p M1 h1 => by
  obtain ⟨ds, G⟩ := p
  obtain ⟨hl, h2⟩ := ifsat h1
  have h3 := nox_sat (h2.bd (Ψ := fun ys M2 => Φ (.lst ys) M2) fun ys M2 h3 => h3)
  refine ⟨fun i acc M' => i ≤ ds.length ∧ acc.length ≤ i ∧ (lcL yg t e vs ρ G (ds.drop i) M').sat (fun ys M2 => Φ (.lst (acc ++ ys)) M2) (fun _ _ _ => False), ⟨Nat.zero_le _, Nat.le_refl _, h3⟩, fun i acc M' q => ⟨lcL_G q.2.2, ?_⟩, fun i d acc M' hd q => ?_, fun acc M' q => ?_⟩
  · rw [sizeLine_eq]
    have h1 : ds.length < 16777216 := hl
    have := q.1
    have := q.2.1
    omega
  · have hi : i < ds.length := (List.getElem?_eq_some_iff.mp hd).1
    have e0 : ds.drop i = d :: ds.drop (i + 1) := by
      rw [List.drop_eq_getElem_cons hi]
      congr 1
      exact (List.getElem?_eq_some_iff.mp hd).2
    obtain ⟨q1, q2, q3⟩ := q
    rw [e0] at q3
    unfold lcL at q3
    refine gw_getO hg (ifsat q3).2 fun ρ1 M2 q4 => ht _ _ _ _ (q4.bd fun c M3 q5 => ⟨fun ec => he _ _ _ _ ?_, fun ec => ?_⟩)
    · subst ec
      refine R.sat.bd (k := fun y M4 => (lcL yg t e vs ρ G (ds.drop (i + 1)) M4).bd fun ys M5 => .ok (y :: ys) M5) q5 fun y M4 q6 => .inl ⟨hi, by rw [List.length_append]; exact Nat.succ_le_succ q2, ?_⟩
      have := q6.bd (Ψ := fun ys M2 => Φ (.lst (acc ++ [y] ++ ys)) M2) fun ys M5 q7 => by
        rw [List.append_assoc]
        exact q7
      exact this
    · subst ec
      exact .inl ⟨hi, Nat.le_succ_of_le q2, q5⟩
  · obtain ⟨q1, q2, q3⟩ := q
    rw [List.drop_length] at q3
    unfold lcL at q3
    have := (ifsat q3).2
    rw [← List.append_nil acc]
    exact this))
end
end Z
namespace Z
open PySem PySem.Spec PyProof.Rows L2

def fldB (n : Nat) : Option (List (Str × D)) → Bool
  | none => true
  | some fs => bndL n (fs.map (·.2))
def Coll (M M' : Mem) : Prop := ∀ i o, i < M.length → M'[i]? = some o → M[i]? = some o ∨ o.bnd M.length = true
open Classical in
noncomputable def y_gc (M0 : Mem) : R D → R D
  | .ok d M => if d.bnd M0.length = true ∧ Coll M0 M then .ok d (M.take M0.length) else .ok d M
  | .xc c fo M => if fldB M0.length fo = true ∧ Coll M0 M then .xc c fo (M.take M0.length) else .xc c fo M
  | .bad => .bad
def y_end : RS → R D
  | .nx _ M => .ok .non M
  | .rt d M => .ok d M
  | .xc c fo _ M => .xc c fo M
  | _ => .bad
def y_run (N np : Nat) (s : YS) (ds : List D) (M : Mem) : R D := if ds.length = np then y_end (s (ds.map some ++ List.replicate (N - ds.length) none) M) else .bad
noncomputable def y_fn (N np : Nat) (s : YS) (ds : List D) (M : Mem) : R D := y_gc M (y_run N np s ds M)
section
variable {K : PySem.W.Frag} {W : WX} {ts : TS} {s : YS}
theorem y_len {N np : Nat} {ds : List D} {M : Mem} {Φ : D → Mem → Prop} {Ξ : XM} (h : spR (y_fn N np s) ds M Φ Ξ) : ds.length = np := by
  unfold spR y_fn y_run at h
  by_cases q : ds.length = np
  · exact q
  · rw [if_neg q] at h
    exact h.elim
theorem RepF.cutF {w : Wd} {n : Nat} {fs : List (Str × D)} {kv : List (Str × V)} (h : RepF K w fs kv) (b : bndL n (fs.map (·.2)) = true) : RepF K (w.cut n) fs kv := ⟨h.1, RepL.cut _ _ h.2 b⟩
theorem y_body {N : List Str} {np : Nat} {E : XK} (hs : OkS K (WF E) ts s) {ds : List D} {M : Mem} {Φ : D → Mem → Prop} {Ξ : XM} (h : spR (y_fn N.length np s) ds M Φ Ξ) :
    SW K (WF E) ts (startD N ds) M { nx := fun _ M' => Φ .non M', rt := Φ, xn := fun c fo _ M' => Ξ c fo M' } := by
  have hl := y_len h
  unfold spR y_fn y_run at h
  rw [if_pos hl] at h
  intro w σ Dn gm e ok
  have hn : w.α.length ≤ M.length := Nat.le_of_eq gm.len
  have cutE : ∀ {w' : Wd} {M' : Mem}, Ext w w' → GM K w' M' → Coll M M' → Ext w (w'.cut M.length) ∧ GM K (w'.cut M.length) (M'.take M.length) := fun e' g' b => ⟨ext_cut e' hn, g'.cut fun m hm => by
    obtain ⟨i, hi, e⟩ := List.mem_iff_getElem.mp hm
    rw [List.length_take] at hi
    rw [List.getElem_take] at e
    rcases b i m (by omega) (by rw [← e]; exact List.getElem?_eq_getElem (by omega)) with q | q
    · exact gm.bndW m (List.mem_of_getElem? q)
    · exact q⟩
  refine hs (startD N ds) M { nx := fun ρ' M' => (y_gc M (.ok .non M')).sat Φ Ξ, rt := fun d M' => (y_gc M (.ok d M')).sat Φ Ξ, xn := fun c fo _ M' => (y_gc M (.xc c fo M')).sat Φ Ξ } ?_ w σ Dn gm e ⟨fun ρ' M' σ' w' e' g' r' q => ?_, fun v w' d M' e' g' r' q => ?_, fun ρ' M' σ' w' e' g' r' q => q.elim, fun ρ' M' σ' w' e' g' r' q => q.elim, fun cls fo σ' ρ' w' M' d e' f' g' r' x' q => ?_⟩
  · have h' : (y_gc M (y_end (s (startD N ds) M))).sat Φ Ξ := h
    cases z : s (startD N ds) M with
    | nx ρ' M' => rw [z] at h'; exact h'
    | rt d M' => rw [z] at h'; exact h'
    | xc c fo ρ' M' => rw [z] at h'; exact h'
    | bk ρ' M' => rw [z] at h'; exact h'.elim
    | ct ρ' M' => rw [z] at h'; exact h'.elim
    | bad => rw [z] at h'; exact h'.elim
  · unfold y_gc at q
    dsimp only at q
    split at q
    · next b =>
      obtain ⟨b1, b2⟩ := b
      obtain ⟨e2, g2⟩ := cutE e' g' b2
      refine ok.nx (List.replicate σ'.length none) (M'.take M.length) σ' (w'.cut M.length) e2 g2 ⟨List.length_replicate, fun i d hd => ?_⟩ q
      rw [List.getElem?_replicate] at hd
      split at hd <;> cases hd
    · exact ok.nx ρ' M' σ' w' e' g' r' q
  · unfold y_gc at q
    dsimp only at q
    split at q
    · next b =>
      obtain ⟨b1, b2⟩ := b
      obtain ⟨e2, g2⟩ := cutE e' g' b2
      exact ok.rt v (w'.cut M.length) d _ e2 g2 (Rep.cut _ _ r' b1) q
    · exact ok.rt v w' d M' e' g' r' q
  · unfold y_gc at q
    dsimp only at q
    split at q
    · next b =>
      obtain ⟨b1, b2⟩ := b
      obtain ⟨e2, g2⟩ := cutE e' g' b2
      refine ok.xn cls fo σ' (List.replicate σ'.length none) (w'.cut M.length) _ d e2 f' g2 ⟨List.length_replicate, fun i d hd => ?_⟩ ?_ q
      · rw [List.getElem?_replicate] at hd
        split at hd <;> cases hd
      · cases fo with
        | none => exact trivial
        | some fs =>
          obtain ⟨a, kv, ea, hH, hF, hA⟩ := x'
          exact ⟨a, kv, ea, hH, hF.cutF b1, fun m => hA (List.mem_of_mem_take m)⟩
    · exact ok.xn cls fo σ' ρ' w' M' d e' f' g' r' x' q
end
end Z
namespace Z
open PySem PySem.Spec PyProof.Rows L2
section
variable {K : PySem.W.Frag} {W : WX} {C B : Addr} {f : List D → Mem → R D} {te ta : TE} {a : YE} {ts : TS}
def c_strO (C : Addr) (f : List D → Mem → R D) : List D → Mem → R D := fun xs M => match xs with
  | [x] => (match insC M x C with
    | some _ => (f [x] M).bd fun d M1 => (match d with
      | .str z => .ok (.str z) M1
      | _ => .bad)
    | none => .bad)
  | _ => .bad
def c_lenO (C : Addr) (f : List D → Mem → R D) : List D → Mem → R D := fun xs M => match xs with
  | [x] => (match insC M x C with
    | some _ => (f [x] M).bd fun d M1 => (match d with
      | .int i => if 0 ≤ i ∧ i < 2 ^ 63 then .ok (.int i) M1 else .bad
      | _ => .bad)
    | none => .bad)
  | _ => .bad
def c_boolO (C : Addr) (f : List D → Mem → R D) : List D → Mem → R D := fun xs M => match xs with
  | [x] => (match insC M x C with
    | some _ => (f [x] M).bd fun d M1 => (match d with
      | .int i => if 0 ≤ i ∧ i < 2 ^ 63 then .ok (.bl (i != 0)) M1 else .bad
      | _ => .bad)
    | none => .bad)
  | _ => .bad
def o_inO (C : Addr) (f : List D → Mem → R D) (neg : Bool) : D → D → Mem → R D := fun x y M => match insC M y C with
  | some _ => (f [y, x] M).bd fun d M1 => (match d with
    | .bl b => .ok (.bl (if neg then !b else b)) M1
    | _ => .bad)
  | none => .bad
def o_eqO (C B : Addr) (f : List D → Mem → R D) : D → D → Mem → R D := fun x y M => match insC M x C, insC M y B with
  | some _, some _ => (f [x, y] M).bd fun d M1 => (match d with
    | .bl b => .ok (.bl b) M1
    | _ => .bad)
  | _, _ => .bad
theorem ko_eqO (hn : PySem.W.notFirst K C (.ref B) = true) : OkOR K (rEqO K C (spOf K (spR f)) E0) (o_eqO C B f) := fun x y M Φ h => by
  unfold o_eqO at h
  split at h
  · next e1 e2 =>
    obtain ⟨n, rfl, hm⟩ := insC_ok e1
    obtain ⟨m, rfl, hm2⟩ := insC_ok e2
    exact oz_eqO hm hm2 hn (R.sat.bd h fun d M1 h1 => by
      cases d with
      | bl b => exact ⟨b, rfl, h1⟩
      | _ => exact h1.elim)
  · exact h.elim
def c_isiO (C : Addr) : List D → Mem → Option (D × Mem) := fun xs M => match xs with
  | [x, .glo C'] => if C' = C then (match insC M x C with
    | some _ => some (.bl true, M)
    | none => (match tyN M x with
      | some t => if bTys.contains t then some (.bl false, M) else none
      | none => none)) else none
  | _ => none
theorem kc_isiO {c : Str} (cl : Cls K (He.ga K c)) (ic : InsC K (He.ga K c)) (hk : kitC K c = true) : OkC K (rIsi K) (c_isiO (He.ga K c)) := fun xs M d M' Φ e q => by
  unfold c_isiO at e
  split at e
  · split at e
    · next eC =>
      subst eC
      split at e
      · next e1 =>
        obtain ⟨n, rfl, hm⟩ := insC_ok e1
        cases e
        exact cz_isiS hm cl ic q
      · split at e
        · next t ht =>
          split at e
          · next hb =>
            cases e
            exact cz_isiC (tyN_ok ht) (of_decide_eq_true (List.all_eq_true.mp hk t (by simpa using hb))) q
          · cases e
        · cases e
    · cases e
  · cases e
def y_cval (C : Addr) (d : D) (a : YE) : YE := fun ρ M => (a ρ M).bd fun x M1 => match x with
  | .glo C' => if C' = C then .ok d M1 else .bad
  | _ => .bad
def y_at (F : Nat → YS) : YS := fun ρ M => F (M.length - 1) ρ M
def i_keysK (a : YE) : YI := fun ρ M => (a ρ M).bd fun x M1 => match x with
  | .ref n => (match M1[n]? with
    | some (.fK o kvs) => .ok (kvs.map fun kv => keyD kv.1, fun M' => M'[n]? = some (.fK o kvs)) M1
    | _ => .bad)
  | _ => .bad
def i_keysT (a : YE) : YI := fun ρ M => (a ρ M).bd fun x M1 => match x with
  | .ref n => (match M1[n]? with
    | some (.fT o kvs) => .ok (kvs.map fun kv => .tup (kv.1.map keyD), fun M' => M'[n]? = some (.fT o kvs)) M1
    | _ => .bad)
  | _ => .bad
end
end Z
namespace Z
open PySem PySem.Spec PyProof.Rows L2
theorem k_yes {K : PySem.W.Frag} {W : WX} : OkT K W tYes y_yes := fun ρ M Φ Ξ h => et_yes h
structure SC (P : Program) (w : World) (K : PySem.W.Frag) (mg : Str → Option Value) (base : Heap) (k : Nat) (ps : List Str) (S : DSp) (f : Addr) (fd : FuncData) : Prop where
  ok : FnOk P w K mg base (L2.CX P w) k f fd ps (spOf K S)
  bi : Binds K fd ps []
structure MC (P : Program) (w : World) (K : PySem.W.Frag) (mg : Str → Option Value) (base : Heap) (k : Nat) (S : DSp) (f : Addr) : Prop where
  ok : FnR P w K mg base (L2.CX P w) k f (spOf K S)
theorem fnr_of {P : Program} {w : World} {K : PySem.W.Frag} {mg : Str → Option Value} {base : Heap} {k : Nat} {S : DSp} {f : Addr} {fd : FuncData} {ps : List Str} (F : FnOk P w K mg base (L2.CX P w) k f fd ps (spOf K S)) (b : Binds K fd ps []) : FnR P w K mg base (L2.CX P w) k f (spOf K S) :=
  (F.raw b .nil).imp fun vs H Q E h => by
    rw [List.append_nil]
    exact h
end Z
namespace Z
open PySem PySem.Spec PyProof.Rows L2
theorem e_c {d : D} {ρ : Sl} {M : Mem} : y_c d ρ M = (.ok d M) := rfl
def k1_un (o : D → Mem → Option D) (ρ : Sl) (x : D) (M1 : Mem) : R D := opt (o x M1) M1
theorem e_k1_un {o : D → Mem → Option D} {ρ : Sl} {x : D} {M1 : Mem} : k1_un o ρ x M1 = (opt (o x M1) M1) := rfl
theorem e_un {o : D → Mem → Option D} {a : YE} {ρ : Sl} {M : Mem} : y_un o a ρ M = ((a ρ M).bd (k1_un o ρ)) := rfl
def k2_op (o : D → D → Mem → Option D) (ρ : Sl) (x : D) (M1 : Mem) (y : D) (M2 : Mem) : R D := opt (o x y M2) M2
theorem e_k2_op {o : D → D → Mem → Option D} {ρ : Sl} {x : D} {M1 : Mem} {y : D} {M2 : Mem} : k2_op o ρ x M1 y M2 = (opt (o x y M2) M2) := rfl
def k3_op (o : D → D → Mem → Option D) (b : YE) (ρ : Sl) (x : D) (M1 : Mem) : R D := (b ρ M1).bd (k2_op o ρ x M1)
theorem e_k3_op {o : D → D → Mem → Option D} {b : YE} {ρ : Sl} {x : D} {M1 : Mem} : k3_op o b ρ x M1 = ((b ρ M1).bd (k2_op o ρ x M1)) := rfl
theorem e_op {o : D → D → Mem → Option D} {a : YE} {b : YE} {ρ : Sl} {M : Mem} : y_op o a b ρ M = ((a ρ M).bd (k3_op o b ρ)) := rfl
def k4_opR (o : D → D → Mem → R D) (ρ : Sl) (x : D) (M1 : Mem) (y : D) (M2 : Mem) : R D := (o x y M2).nox
theorem e_k4_opR {o : D → D → Mem → R D} {ρ : Sl} {x : D} {M1 : Mem} {y : D} {M2 : Mem} : k4_opR o ρ x M1 y M2 = ((o x y M2).nox) := rfl
def k5_opR (o : D → D → Mem → R D) (b : YE) (ρ : Sl) (x : D) (M1 : Mem) : R D := (b ρ M1).bd (k4_opR o ρ x M1)
theorem e_k5_opR {o : D → D → Mem → R D} {b : YE} {ρ : Sl} {x : D} {M1 : Mem} : k5_opR o b ρ x M1 = ((b ρ M1).bd (k4_opR o ρ x M1)) := rfl
theorem e_opR {o : D → D → Mem → R D} {a : YE} {b : YE} {ρ : Sl} {M : Mem} : y_opR o a b ρ M = ((a ρ M).bd (k5_opR o b ρ)) := rfl
def k6_cb (o : List D → Mem → Option (D × Mem)) (ρ : Sl) (xs : List D) (M1 : Mem) : R D := optM (o xs M1)
theorem e_k6_cb {o : List D → Mem → Option (D × Mem)} {ρ : Sl} {xs : List D} {M1 : Mem} : k6_cb o ρ xs M1 = (optM (o xs M1)) := rfl
theorem e_cb {o : List D → Mem → Option (D × Mem)} {a : YA} {ρ : Sl} {M : Mem} : y_cb o a ρ M = ((a ρ M).bd (k6_cb o ρ)) := rfl
def k7_cbR (o : List D → Mem → R D) (ρ : Sl) (xs : List D) (M1 : Mem) : R D := (o xs M1).nox
theorem e_k7_cbR {o : List D → Mem → R D} {ρ : Sl} {xs : List D} {M1 : Mem} : k7_cbR o ρ xs M1 = ((o xs M1).nox) := rfl
theorem e_cbR {o : List D → Mem → R D} {a : YA} {ρ : Sl} {M : Mem} : y_cbR o a ρ M = ((a ρ M).bd (k7_cbR o ρ)) := rfl
def k8_bm (ty : D → Mem → Bool) (o : D → List D → Mem → Option (D × Mem)) (b : YA) (ρ : Sl) (x : D) (M1 : Mem) : R D := if ty x M1 = true then (b ρ M1).bd fun xs M2 => optM (o x xs M2) else .bad
theorem e_k8_bm {ty : D → Mem → Bool} {o : D → List D → Mem → Option (D × Mem)} {b : YA} {ρ : Sl} {x : D} {M1 : Mem} : k8_bm ty o b ρ x M1 = (if ty x M1 = true then (b ρ M1).bd fun xs M2 => optM (o x xs M2) else .bad) := rfl
theorem e_bm {ty : D → Mem → Bool} {o : D → List D → Mem → Option (D × Mem)} {a : YE} {b : YA} {ρ : Sl} {M : Mem} : y_bm ty o a b ρ M = ((a ρ M).bd (k8_bm ty o b ρ)) := rfl
def k9_not (ρ : Sl) (x : D) (M1 : Mem) : R D := match x with
  | .bl b => .ok (.bl (!b)) M1
  | _ => .bad
theorem e_k9_not {ρ : Sl} {x : D} {M1 : Mem} : k9_not ρ x M1 = (match x with
  | .bl b => .ok (.bl (!b)) M1
  | _ => .bad) := rfl
theorem e_not {a : YE} {ρ : Sl} {M : Mem} : y_not a ρ M = ((a ρ M).bd (k9_not ρ)) := rfl
def k10_isN (ρ : Sl) (x : D) (M1 : Mem) : R D := .ok (.bl (isNon x)) M1
theorem e_k10_isN {ρ : Sl} {x : D} {M1 : Mem} : k10_isN ρ x M1 = (.ok (.bl (isNon x)) M1) := rfl
theorem e_isN {a : YE} {ρ : Sl} {M : Mem} : y_isN a ρ M = ((a ρ M).bd (k10_isN ρ)) := rfl
def k11_notN (ρ : Sl) (x : D) (M1 : Mem) : R D := .ok (.bl (!isNon x)) M1
theorem e_k11_notN {ρ : Sl} {x : D} {M1 : Mem} : k11_notN ρ x M1 = (.ok (.bl (!isNon x)) M1) := rfl
theorem e_notN {a : YE} {ρ : Sl} {M : Mem} : y_notN a ρ M = ((a ρ M).bd (k11_notN ρ)) := rfl
def k12_and (b : YE) (ρ : Sl) (x : D) (M1 : Mem) : R D := match x with
  | .bl c => if c = true then b ρ M1 else .ok (.bl false) M1
  | _ => .bad
theorem e_k12_and {b : YE} {ρ : Sl} {x : D} {M1 : Mem} : k12_and b ρ x M1 = (match x with
  | .bl c => if c = true then b ρ M1 else .ok (.bl false) M1
  | _ => .bad) := rfl
theorem e_and {a : YE} {b : YE} {ρ : Sl} {M : Mem} : y_and a b ρ M = ((a ρ M).bd (k12_and b ρ)) := rfl
def k13_or (b : YE) (ρ : Sl) (x : D) (M1 : Mem) : R D := match x with
  | .bl c => if c = true then .ok (.bl true) M1 else b ρ M1
  | _ => .bad
theorem e_k13_or {b : YE} {ρ : Sl} {x : D} {M1 : Mem} : k13_or b ρ x M1 = (match x with
  | .bl c => if c = true then .ok (.bl true) M1 else b ρ M1
  | _ => .bad) := rfl
theorem e_or {a : YE} {b : YE} {ρ : Sl} {M : Mem} : y_or a b ρ M = ((a ρ M).bd (k13_or b ρ)) := rfl
def k14_ife (a : YE) (b : YE) (ρ : Sl) (c : Bool) (M1 : Mem) : R D := if c = true then a ρ M1 else b ρ M1
theorem e_k14_ife {a : YE} {b : YE} {ρ : Sl} {c : Bool} {M1 : Mem} : k14_ife a b ρ c M1 = (if c = true then a ρ M1 else b ρ M1) := rfl
theorem e_ife {t : YT} {a : YE} {b : YE} {ρ : Sl} {M : Mem} : y_ife t a b ρ M = ((t ρ M).bd (k14_ife a b ρ)) := rfl
def k15_tup (ρ : Sl) (xs : List D) (M1 : Mem) : R D := if xs.length ≤ 16777216 then .ok (.tup xs) M1 else .bad
theorem e_k15_tup {ρ : Sl} {xs : List D} {M1 : Mem} : k15_tup ρ xs M1 = (if xs.length ≤ 16777216 then .ok (.tup xs) M1 else .bad) := rfl
theorem e_tup {a : YA} {ρ : Sl} {M : Mem} : y_tup a ρ M = ((a ρ M).bd (k15_tup ρ)) := rfl
def k16_lst (ρ : Sl) (xs : List D) (M1 : Mem) : R D := if xs.length ≤ 16777216 then .ok (.lst xs) M1 else .bad
theorem e_k16_lst {ρ : Sl} {xs : List D} {M1 : Mem} : k16_lst ρ xs M1 = (if xs.length ≤ 16777216 then .ok (.lst xs) M1 else .bad) := rfl
theorem e_lst {a : YA} {ρ : Sl} {M : Mem} : y_lst a ρ M = ((a ρ M).bd (k16_lst ρ)) := rfl
def k17_lstM (ρ : Sl) (xs : List D) (M1 : Mem) : R D := if xs.length ≤ 16777216 then .ok (.ref M1.length) (M1 ++ [.lst xs]) else .bad
theorem e_k17_lstM {ρ : Sl} {xs : List D} {M1 : Mem} : k17_lstM ρ xs M1 = (if xs.length ≤ 16777216 then .ok (.ref M1.length) (M1 ++ [.lst xs]) else .bad) := rfl
theorem e_lstM {a : YA} {ρ : Sl} {M : Mem} : y_lstM a ρ M = ((a ρ M).bd (k17_lstM ρ)) := rfl
theorem e_dkM  {ρ : Sl} {M : Mem} : y_dkM  ρ M = (.ok (.ref M.length) (M ++ [.dK []])) := rfl
theorem e_dtM  {ρ : Sl} {M : Mem} : y_dtM  ρ M = (.ok (.ref M.length) (M ++ [.dT []])) := rfl
def k18_fld (C : Addr) (f : Str) (ρ : Sl) (x : D) (M1 : Mem) : R D := match (insC M1 x C).bind (fun fs => fs.lookup f) with
  | some d => .ok d M1
  | none => .bad
theorem e_k18_fld {C : Addr} {f : Str} {ρ : Sl} {x : D} {M1 : Mem} : k18_fld C f ρ x M1 = (match (insC M1 x C).bind (fun fs => fs.lookup f) with
  | some d => .ok d M1
  | none => .bad) := rfl
theorem e_fld {C : Addr} {f : Str} {a : YE} {ρ : Sl} {M : Mem} : y_fld C f a ρ M = ((a ρ M).bd (k18_fld C f ρ)) := rfl
def k19_dget (ρ : Sl) (x : D) (M1 : Mem) (y : D) (M2 : Mem) : R D := match getD M2 x y with
  | some (some d) => .ok d M2
  | _ => .bad
theorem e_k19_dget {ρ : Sl} {x : D} {M1 : Mem} {y : D} {M2 : Mem} : k19_dget ρ x M1 y M2 = (match getD M2 x y with
  | some (some d) => .ok d M2
  | _ => .bad) := rfl
def k20_dget (b : YE) (ρ : Sl) (x : D) (M1 : Mem) : R D := (b ρ M1).bd (k19_dget ρ x M1)
theorem e_k20_dget {b : YE} {ρ : Sl} {x : D} {M1 : Mem} : k20_dget b ρ x M1 = ((b ρ M1).bd (k19_dget ρ x M1)) := rfl
theorem e_dget {a : YE} {b : YE} {ρ : Sl} {M : Mem} : y_dget a b ρ M = ((a ρ M).bd (k20_dget b ρ)) := rfl
def k21_dget1 (b : YE) (ρ : Sl) (x : D) (M1 : Mem) : R D := if (dkD M1 x).isSome || (dtD M1 x).isSome then (b ρ M1).bd fun y M2 => match getD M2 x y with
  | some r => .ok (r.getD .non) M2
  | _ => .bad else .bad
theorem e_k21_dget1 {b : YE} {ρ : Sl} {x : D} {M1 : Mem} : k21_dget1 b ρ x M1 = (if (dkD M1 x).isSome || (dtD M1 x).isSome then (b ρ M1).bd fun y M2 => match getD M2 x y with
  | some r => .ok (r.getD .non) M2
  | _ => .bad else .bad) := rfl
theorem e_dget1 {a : YE} {b : YE} {ρ : Sl} {M : Mem} : y_dget1 a b ρ M = ((a ρ M).bd (k21_dget1 b ρ)) := rfl
def k22_din (ρ : Sl) (y : D) (M1 : Mem) (x : D) (M2 : Mem) : R D := match getD M2 x y with
  | some r => .ok (.bl r.isSome) M2
  | _ => .bad
theorem e_k22_din {ρ : Sl} {y : D} {M1 : Mem} {x : D} {M2 : Mem} : k22_din ρ y M1 x M2 = (match getD M2 x y with
  | some r => .ok (.bl r.isSome) M2
  | _ => .bad) := rfl
def k23_din (b : YE) (ρ : Sl) (y : D) (M1 : Mem) : R D := (b ρ M1).bd (k22_din ρ y M1)
theorem e_k23_din {b : YE} {ρ : Sl} {y : D} {M1 : Mem} : k23_din b ρ y M1 = ((b ρ M1).bd (k22_din ρ y M1)) := rfl
theorem e_din {a : YE} {b : YE} {ρ : Sl} {M : Mem} : y_din a b ρ M = ((a ρ M).bd (k23_din b ρ)) := rfl
def k24_dnotin (ρ : Sl) (y : D) (M1 : Mem) (x : D) (M2 : Mem) : R D := match getD M2 x y with
  | some r => .ok (.bl (!r.isSome)) M2
  | _ => .bad
theorem e_k24_dnotin {ρ : Sl} {y : D} {M1 : Mem} {x : D} {M2 : Mem} : k24_dnotin ρ y M1 x M2 = (match getD M2 x y with
  | some r => .ok (.bl (!r.isSome)) M2
  | _ => .bad) := rfl
def k25_dnotin (b : YE) (ρ : Sl) (y : D) (M1 : Mem) : R D := (b ρ M1).bd (k24_dnotin ρ y M1)
theorem e_k25_dnotin {b : YE} {ρ : Sl} {y : D} {M1 : Mem} : k25_dnotin b ρ y M1 = ((b ρ M1).bd (k24_dnotin ρ y M1)) := rfl
theorem e_dnotin {a : YE} {b : YE} {ρ : Sl} {M : Mem} : y_dnotin a b ρ M = ((a ρ M).bd (k25_dnotin b ρ)) := rfl
def k26_lvals (ρ : Sl) (x : D) (M1 : Mem) : R D := match dkD M1 x with
  | some kvs => .ok (.lst (kvs.map (·.2))) M1
  | _ => .bad
theorem e_k26_lvals {ρ : Sl} {x : D} {M1 : Mem} : k26_lvals ρ x M1 = (match dkD M1 x with
  | some kvs => .ok (.lst (kvs.map (·.2))) M1
  | _ => .bad) := rfl
theorem e_lvals {a : YE} {ρ : Sl} {M : Mem} : y_lvals a ρ M = ((a ρ M).bd (k26_lvals ρ)) := rfl
def k27_chain (o : D → D → Mem → Option D) (o' : D → D → Mem → Option D) (c : YE) (ρ : Sl) (x : D) (M1 : Mem) (y : D) (M2 : Mem) : R D := match o x y M2 with
  | some (.bl k) => if k = true then (c ρ M2).bd fun z M3 => opt (o' y z M3) M3 else .ok (.bl false) M2
  | _ => .bad
theorem e_k27_chain {o : D → D → Mem → Option D} {o' : D → D → Mem → Option D} {c : YE} {ρ : Sl} {x : D} {M1 : Mem} {y : D} {M2 : Mem} : k27_chain o o' c ρ x M1 y M2 = (match o x y M2 with
  | some (.bl k) => if k = true then (c ρ M2).bd fun z M3 => opt (o' y z M3) M3 else .ok (.bl false) M2
  | _ => .bad) := rfl
def k28_chain (o : D → D → Mem → Option D) (o' : D → D → Mem → Option D) (b : YE) (c : YE) (ρ : Sl) (x : D) (M1 : Mem) : R D := (b ρ M1).bd (k27_chain o o' c ρ x M1)
theorem e_k28_chain {o : D → D → Mem → Option D} {o' : D → D → Mem → Option D} {b : YE} {c : YE} {ρ : Sl} {x : D} {M1 : Mem} : k28_chain o o' b c ρ x M1 = ((b ρ M1).bd (k27_chain o o' c ρ x M1)) := rfl
theorem e_chain {o : D → D → Mem → Option D} {o' : D → D → Mem → Option D} {a : YE} {b : YE} {c : YE} {ρ : Sl} {M : Mem} : y_chain o o' a b c ρ M = ((a ρ M).bd (k28_chain o o' b c ρ)) := rfl
theorem e_pn  {ρ : Sl} {M : Mem} : y_pn  ρ M = (.ok none M) := rfl
def k29_ps (ρ : Sl) (x : D) (M1 : Mem) : R (Option Int) := match x with
  | .int i => .ok (some i) M1
  | _ => .bad
theorem e_k29_ps {ρ : Sl} {x : D} {M1 : Mem} : k29_ps ρ x M1 = (match x with
  | .int i => .ok (some i) M1
  | _ => .bad) := rfl
theorem e_ps {a : YE} {ρ : Sl} {M : Mem} : y_ps a ρ M = ((a ρ M).bd (k29_ps ρ)) := rfl
def k30_sl (ρ : Sl) (x : D) (M1 : Mem) (lo : Option Int) (M2 : Mem) (hi : Option Int) (M3 : Mem) : R D := opt (slD x lo hi M3) M3
theorem e_k30_sl {ρ : Sl} {x : D} {M1 : Mem} {lo : Option Int} {M2 : Mem} {hi : Option Int} {M3 : Mem} : k30_sl ρ x M1 lo M2 hi M3 = (opt (slD x lo hi M3) M3) := rfl
def k31_sl (h : YO) (ρ : Sl) (x : D) (M1 : Mem) (lo : Option Int) (M2 : Mem) : R D := (h ρ M2).bd (k30_sl ρ x M1 lo M2)
theorem e_k31_sl {h : YO} {ρ : Sl} {x : D} {M1 : Mem} {lo : Option Int} {M2 : Mem} : k31_sl h ρ x M1 lo M2 = ((h ρ M2).bd (k30_sl ρ x M1 lo M2)) := rfl
def k32_sl (l : YO) (h : YO) (ρ : Sl) (x : D) (M1 : Mem) : R D := (l ρ M1).bd (k31_sl h ρ x M1)
theorem e_k32_sl {l : YO} {h : YO} {ρ : Sl} {x : D} {M1 : Mem} : k32_sl l h ρ x M1 = ((l ρ M1).bd (k31_sl h ρ x M1)) := rfl
theorem e_sl {a : YE} {l : YO} {h : YO} {ρ : Sl} {M : Mem} : y_sl a l h ρ M = ((a ρ M).bd (k32_sl l h ρ)) := rfl
def k33_rev (ρ : Sl) (x : D) (M1 : Mem) : R D := match asL M1 x with
  | some ds => .ok (.lst ds.reverse) M1
  | none => .bad
theorem e_k33_rev {ρ : Sl} {x : D} {M1 : Mem} : k33_rev ρ x M1 = (match asL M1 x with
  | some ds => .ok (.lst ds.reverse) M1
  | none => .bad) := rfl
theorem e_rev {a : YE} {ρ : Sl} {M : Mem} : y_rev a ρ M = ((a ρ M).bd (k33_rev ρ)) := rfl
def k34_slS (ρ : Sl) (x : D) (M1 : Mem) (lo : Option Int) (M2 : Mem) (st : Option Int) (M3 : Mem) : R D := match asL M3 x with
  | some xs => if st ≠ some 0 then .ok (.lst (pickL xs lo none st)) M3 else .bad
  | none => .bad
theorem e_k34_slS {ρ : Sl} {x : D} {M1 : Mem} {lo : Option Int} {M2 : Mem} {st : Option Int} {M3 : Mem} : k34_slS ρ x M1 lo M2 st M3 = (match asL M3 x with
  | some xs => if st ≠ some 0 then .ok (.lst (pickL xs lo none st)) M3 else .bad
  | none => .bad) := rfl
def k35_slS (h : YO) (ρ : Sl) (x : D) (M1 : Mem) (lo : Option Int) (M2 : Mem) : R D := (h ρ M2).bd (k34_slS ρ x M1 lo M2)
theorem e_k35_slS {h : YO} {ρ : Sl} {x : D} {M1 : Mem} {lo : Option Int} {M2 : Mem} : k35_slS h ρ x M1 lo M2 = ((h ρ M2).bd (k34_slS ρ x M1 lo M2)) := rfl
def k36_slS (l : YO) (h : YO) (ρ : Sl) (x : D) (M1 : Mem) : R D := (l ρ M1).bd (k35_slS h ρ x M1)
theorem e_k36_slS {l : YO} {h : YO} {ρ : Sl} {x : D} {M1 : Mem} : k36_slS l h ρ x M1 = ((l ρ M1).bd (k35_slS h ρ x M1)) := rfl
theorem e_slS {a : YE} {l : YO} {h : YO} {ρ : Sl} {M : Mem} : y_slS a l h ρ M = ((a ρ M).bd (k36_slS l h ρ)) := rfl
theorem e_nil  {ρ : Sl} {M : Mem} : y_nil  ρ M = (.ok [] M) := rfl
def k37_cons (ρ : Sl) (x : D) (M1 : Mem) (xs : List D) (M2 : Mem) : R (List D) := .ok (x :: xs) M2
theorem e_k37_cons {ρ : Sl} {x : D} {M1 : Mem} {xs : List D} {M2 : Mem} : k37_cons ρ x M1 xs M2 = (.ok (x :: xs) M2) := rfl
def k38_cons (b : YA) (ρ : Sl) (x : D) (M1 : Mem) : R (List D) := (b ρ M1).bd (k37_cons ρ x M1)
theorem e_k38_cons {b : YA} {ρ : Sl} {x : D} {M1 : Mem} : k38_cons b ρ x M1 = ((b ρ M1).bd (k37_cons ρ x M1)) := rfl
theorem e_cons {a : YE} {b : YA} {ρ : Sl} {M : Mem} : y_cons a b ρ M = ((a ρ M).bd (k38_cons b ρ)) := rfl
def k39_star (b : YA) (ρ : Sl) (x : D) (M1 : Mem) : R (List D) := match asS M1 x with
  | some ys => (b ρ M1).bd fun xs M2 => .ok (ys ++ xs) M2
  | none => .bad
theorem e_k39_star {b : YA} {ρ : Sl} {x : D} {M1 : Mem} : k39_star b ρ x M1 = (match asS M1 x with
  | some ys => (b ρ M1).bd fun xs M2 => .ok (ys ++ xs) M2
  | none => .bad) := rfl
theorem e_star {a : YE} {b : YA} {ρ : Sl} {M : Mem} : y_star a b ρ M = ((a ρ M).bd (k39_star b ρ)) := rfl
def k40_t (ρ : Sl) (x : D) (M1 : Mem) : R Bool := match x with
  | .bl b => .ok b M1
  | _ => .bad
theorem e_k40_t {ρ : Sl} {x : D} {M1 : Mem} : k40_t ρ x M1 = (match x with
  | .bl b => .ok b M1
  | _ => .bad) := rfl
theorem e_t {a : YE} {ρ : Sl} {M : Mem} : y_t a ρ M = ((a ρ M).bd (k40_t ρ)) := rfl
def k41_tnot (ρ : Sl) (b : Bool) (M1 : Mem) : R Bool := .ok (!b) M1
theorem e_k41_tnot {ρ : Sl} {b : Bool} {M1 : Mem} : k41_tnot ρ b M1 = (.ok (!b) M1) := rfl
theorem e_tnot {a : YT} {ρ : Sl} {M : Mem} : y_tnot a ρ M = ((a ρ M).bd (k41_tnot ρ)) := rfl
def k42_tand (b : YT) (ρ : Sl) (c : Bool) (M1 : Mem) : R Bool := if c = true then b ρ M1 else .ok false M1
theorem e_k42_tand {b : YT} {ρ : Sl} {c : Bool} {M1 : Mem} : k42_tand b ρ c M1 = (if c = true then b ρ M1 else .ok false M1) := rfl
theorem e_tand {a : YT} {b : YT} {ρ : Sl} {M : Mem} : y_tand a b ρ M = ((a ρ M).bd (k42_tand b ρ)) := rfl
def k43_tor (b : YT) (ρ : Sl) (c : Bool) (M1 : Mem) : R Bool := if c = true then .ok true M1 else b ρ M1
theorem e_k43_tor {b : YT} {ρ : Sl} {c : Bool} {M1 : Mem} : k43_tor b ρ c M1 = (if c = true then .ok true M1 else b ρ M1) := rfl
theorem e_tor {a : YT} {b : YT} {ρ : Sl} {M : Mem} : y_tor a b ρ M = ((a ρ M).bd (k43_tor b ρ)) := rfl
theorem e_yes  {ρ : Sl} {M : Mem} : y_yes  ρ M = (.ok true M) := rfl
theorem e_call {f : List D → Mem → R D} {a : YA} {ρ : Sl} {M : Mem} : y_call f a ρ M = ((a ρ M).bd f) := rfl
def k44_make (C : Addr) (f : List D → Mem → R D) (es : List D) (ρ : Sl) (ds : List D) (M1 : Mem) : R D := (f (.ref M1.length :: (ds ++ es)) (M1 ++ [.ins C []])).bd fun d M2 => match d with
  | .non => .ok (.ref M1.length) M2
  | _ => .bad
theorem e_k44_make {C : Addr} {f : List D → Mem → R D} {es : List D} {ρ : Sl} {ds : List D} {M1 : Mem} : k44_make C f es ρ ds M1 = ((f (.ref M1.length :: (ds ++ es)) (M1 ++ [.ins C []])).bd fun d M2 => match d with
  | .non => .ok (.ref M1.length) M2
  | _ => .bad) := rfl
theorem e_make {C : Addr} {f : List D → Mem → R D} {es : List D} {a : YA} {ρ : Sl} {M : Mem} : y_make C f es a ρ M = ((a ρ M).bd (k44_make C f es ρ)) := rfl
def k45_meth (C : Addr) (m : Str) (f : List D → Mem → R D) (a : YA) (ρ : Sl) (x : D) (M1 : Mem) : R D := match insC M1 x C with
  | some fs => if m ∈ fs.map (·.1) then .bad else (a ρ M1).bd fun ds M2 => f (x :: ds) M2
  | none => .bad
theorem e_k45_meth {C : Addr} {m : Str} {f : List D → Mem → R D} {a : YA} {ρ : Sl} {x : D} {M1 : Mem} : k45_meth C m f a ρ x M1 = (match insC M1 x C with
  | some fs => if m ∈ fs.map (·.1) then .bad else (a ρ M1).bd fun ds M2 => f (x :: ds) M2
  | none => .bad) := rfl
theorem e_meth {C : Addr} {m : Str} {f : List D → Mem → R D} {o : YE} {a : YA} {ρ : Sl} {M : Mem} : y_meth C m f o a ρ M = ((o ρ M).bd (k45_meth C m f a ρ)) := rfl
def k46_methN (C : Addr) (m : Str) (f : List D → Mem → R D) (a : YA) (ρ : Sl) (x : D) (M1 : Mem) : R D := match insC M1 x C with
  | some fs => if m ∈ fs.map (·.1) then .bad else (a ρ M1).bd fun ds M2 => (f (x :: ds) M2).nox
  | none => .bad
theorem e_k46_methN {C : Addr} {m : Str} {f : List D → Mem → R D} {a : YA} {ρ : Sl} {x : D} {M1 : Mem} : k46_methN C m f a ρ x M1 = (match insC M1 x C with
  | some fs => if m ∈ fs.map (·.1) then .bad else (a ρ M1).bd fun ds M2 => (f (x :: ds) M2).nox
  | none => .bad) := rfl
theorem e_methN {C : Addr} {m : Str} {f : List D → Mem → R D} {o : YE} {a : YA} {ρ : Sl} {M : Mem} : y_methN C m f o a ρ M = ((o ρ M).bd (k46_methN C m f a ρ)) := rfl
def k47_cmeth (C : Addr) (f : List D → Mem → R D) (a : YA) (ρ : Sl) (x : D) (M1 : Mem) : R D := match x with
  | .glo C' => if C' = C then (a ρ M1).bd fun ds M2 => f (.glo C :: ds) M2 else .bad
  | _ => .bad
theorem e_k47_cmeth {C : Addr} {f : List D → Mem → R D} {a : YA} {ρ : Sl} {x : D} {M1 : Mem} : k47_cmeth C f a ρ x M1 = (match x with
  | .glo C' => if C' = C then (a ρ M1).bd fun ds M2 => f (.glo C :: ds) M2 else .bad
  | _ => .bad) := rfl
theorem e_cmeth {C : Addr} {f : List D → Mem → R D} {o : YE} {a : YA} {ρ : Sl} {M : Mem} : y_cmeth C f o a ρ M = ((o ρ M).bd (k47_cmeth C f a ρ)) := rfl
def k48_smeth (C : Addr) (f : List D → Mem → R D) (a : YA) (ρ : Sl) (x : D) (M1 : Mem) : R D := match x with
  | .glo C' => if C' = C then (a ρ M1).bd f else .bad
  | _ => .bad
theorem e_k48_smeth {C : Addr} {f : List D → Mem → R D} {a : YA} {ρ : Sl} {x : D} {M1 : Mem} : k48_smeth C f a ρ x M1 = (match x with
  | .glo C' => if C' = C then (a ρ M1).bd f else .bad
  | _ => .bad) := rfl
theorem e_smeth {C : Addr} {f : List D → Mem → R D} {o : YE} {a : YA} {ρ : Sl} {M : Mem} : y_smeth C f o a ρ M = ((o ρ M).bd (k48_smeth C f a ρ)) := rfl
def k49_prop (C : Addr) (f : List D → Mem → R D) (ρ : Sl) (x : D) (M1 : Mem) : R D := match insC M1 x C with
  | some _ => (f [x] M1).nox
  | none => .bad
theorem e_k49_prop {C : Addr} {f : List D → Mem → R D} {ρ : Sl} {x : D} {M1 : Mem} : k49_prop C f ρ x M1 = (match insC M1 x C with
  | some _ => (f [x] M1).nox
  | none => .bad) := rfl
theorem e_prop {C : Addr} {f : List D → Mem → R D} {o : YE} {ρ : Sl} {M : Mem} : y_prop C f o ρ M = ((o ρ M).bd (k49_prop C f ρ)) := rfl
def k50_callO (C : Addr) (f : List D → Mem → R D) (a : YA) (ρ : Sl) (x : D) (M1 : Mem) : R D := match x with
  | .ref n => (a ρ M1).bd fun ds M2 => (match insC M2 (.ref n) C with
    | some _ => (f (.ref n :: ds) M2).nox
    | none => .bad)
  | _ => .bad
theorem e_k50_callO {C : Addr} {f : List D → Mem → R D} {a : YA} {ρ : Sl} {x : D} {M1 : Mem} : k50_callO C f a ρ x M1 = (match x with
  | .ref n => (a ρ M1).bd fun ds M2 => (match insC M2 (.ref n) C with
    | some _ => (f (.ref n :: ds) M2).nox
    | none => .bad)
  | _ => .bad) := rfl
theorem e_callO {C : Addr} {f : List D → Mem → R D} {o : YE} {a : YA} {ρ : Sl} {M : Mem} : y_callO C f o a ρ M = ((o ρ M).bd (k50_callO C f a ρ)) := rfl
def k51_subO (C : Addr) (f : List D → Mem → R D) (ρ : Sl) (x : D) (M1 : Mem) (y : D) (M2 : Mem) : R D := match insC M2 x C with
  | some _ => f [x, y] M2
  | none => .bad
theorem e_k51_subO {C : Addr} {f : List D → Mem → R D} {ρ : Sl} {x : D} {M1 : Mem} {y : D} {M2 : Mem} : k51_subO C f ρ x M1 y M2 = (match insC M2 x C with
  | some _ => f [x, y] M2
  | none => .bad) := rfl
def k52_subO (C : Addr) (f : List D → Mem → R D) (a : YE) (ρ : Sl) (x : D) (M1 : Mem) : R D := (a ρ M1).bd (k51_subO C f ρ x M1)
theorem e_k52_subO {C : Addr} {f : List D → Mem → R D} {a : YE} {ρ : Sl} {x : D} {M1 : Mem} : k52_subO C f a ρ x M1 = ((a ρ M1).bd (k51_subO C f ρ x M1)) := rfl
theorem e_subO {C : Addr} {f : List D → Mem → R D} {o : YE} {a : YE} {ρ : Sl} {M : Mem} : y_subO C f o a ρ M = ((o ρ M).bd (k52_subO C f a ρ)) := rfl
theorem e_makeL {i : Nat} {C : Addr} {f : List D → Mem → R D} {es : List D} {a : YA} {ρ : Sl} {M : Mem} : y_makeL i C f es a ρ M = (match ρ[i]? with
  | some (some (.glo C')) => if C' = C then y_make C f es a ρ M else .bad
  | _ => .bad) := rfl
def k53_isiT (a : String) (b : String) (ρ : Sl) (x : D) (M1 : Mem) : R D := match tyN M1 x with
  | some t => if bTys.contains t && (bTys.contains a && bTys.contains b) then .ok (.bl (isTy t a || isTy t b)) M1 else .bad
  | none => .bad
theorem e_k53_isiT {a : String} {b : String} {ρ : Sl} {x : D} {M1 : Mem} : k53_isiT a b ρ x M1 = (match tyN M1 x with
  | some t => if bTys.contains t && (bTys.contains a && bTys.contains b) then .ok (.bl (isTy t a || isTy t b)) M1 else .bad
  | none => .bad) := rfl
theorem e_isiT {a : String} {b : String} {e : YE} {ρ : Sl} {M : Mem} : y_isiT a b e ρ M = ((e ρ M).bd (k53_isiT a b ρ)) := rfl
def k54_fmt (ρ : Sl) (x : D) (M1 : Mem) : R D := match x with
  | .str z => if z.length ≤ 16777216 then .ok (.str z) M1 else .bad
  | .int i => if i.natAbs.log2 < 1920 then .ok (.str (toString i)) M1 else .bad
  | _ => .bad
theorem e_k54_fmt {ρ : Sl} {x : D} {M1 : Mem} : k54_fmt ρ x M1 = (match x with
  | .str z => if z.length ≤ 16777216 then .ok (.str z) M1 else .bad
  | .int i => if i.natAbs.log2 < 1920 then .ok (.str (toString i)) M1 else .bad
  | _ => .bad) := rfl
theorem e_fmt {a : YE} {ρ : Sl} {M : Mem} : y_fmt a ρ M = ((a ρ M).bd (k54_fmt ρ)) := rfl
theorem e_nx  {ρ : Sl} {M : Mem} : y_nx  ρ M = (.nx ρ M) := rfl
theorem e_seq {s : YS} {t : YS} {ρ : Sl} {M : Mem} : y_seq s t ρ M = ((s ρ M).th t) := rfl
def k55_if (a : YS) (b : YS) (ρ : Sl) (c : Bool) (M1 : Mem) : RS := if c = true then a ρ M1 else b ρ M1
theorem e_k55_if {a : YS} {b : YS} {ρ : Sl} {c : Bool} {M1 : Mem} : k55_if a b ρ c M1 = (if c = true then a ρ M1 else b ρ M1) := rfl
theorem e_if {t : YT} {a : YS} {b : YS} {ρ : Sl} {M : Mem} : y_if t a b ρ M = ((t ρ M).bs ρ (k55_if a b ρ)) := rfl
def k56_ret (ρ : Sl) (d : D) (M1 : Mem) : RS := .rt d M1
theorem e_k56_ret {ρ : Sl} {d : D} {M1 : Mem} : k56_ret ρ d M1 = (.rt d M1) := rfl
theorem e_ret {e : YE} {ρ : Sl} {M : Mem} : y_ret e ρ M = ((e ρ M).bs ρ (k56_ret ρ)) := rfl
theorem e_retN  {ρ : Sl} {M : Mem} : y_retN  ρ M = (.rt .non M) := rfl
def k57_drop (ρ : Sl) (x0 : D) (M1 : Mem) : RS := .nx ρ M1
theorem e_k57_drop {ρ : Sl} {x0 : D} {M1 : Mem} : k57_drop ρ x0 M1 = (.nx ρ M1) := rfl
theorem e_drop {e : YE} {ρ : Sl} {M : Mem} : y_drop e ρ M = ((e ρ M).bs ρ (k57_drop ρ)) := rfl
def k58_asg (g : YG) (ρ : Sl) (d : D) (M1 : Mem) : RS := nxO (g d ρ M1)
theorem e_k58_asg {g : YG} {ρ : Sl} {d : D} {M1 : Mem} : k58_asg g ρ d M1 = (nxO (g d ρ M1)) := rfl
theorem e_asg {e : YE} {g : YG} {ρ : Sl} {M : Mem} : y_asg e g ρ M = ((e ρ M).bs ρ (k58_asg g ρ)) := rfl
theorem e_brk  {ρ : Sl} {M : Mem} : y_brk  ρ M = (.bk ρ M) := rfl
theorem e_cnt  {ρ : Sl} {M : Mem} : y_cnt  ρ M = (.ct ρ M) := rfl
def k59_par (i : Nat) (j : Nat) (ρ : Sl) (ds : List D) (M1 : Mem) : RS := match ds with
  | [x, y] => .nx ((ρ.set i (some x)).set j (some y)) M1
  | _ => .bad
theorem e_k59_par {i : Nat} {j : Nat} {ρ : Sl} {ds : List D} {M1 : Mem} : k59_par i j ρ ds M1 = (match ds with
  | [x, y] => .nx ((ρ.set i (some x)).set j (some y)) M1
  | _ => .bad) := rfl
theorem e_par {i : Nat} {j : Nat} {a : YA} {ρ : Sl} {M : Mem} : y_par i j a ρ M = ((a ρ M).bs ρ (k59_par i j ρ)) := rfl
def k60_par3 (i : Nat) (j : Nat) (l : Nat) (ρ : Sl) (ds : List D) (M1 : Mem) : RS := match ds with
  | [x, y, z] => .nx (((ρ.set i (some x)).set j (some y)).set l (some z)) M1
  | _ => .bad
theorem e_k60_par3 {i : Nat} {j : Nat} {l : Nat} {ρ : Sl} {ds : List D} {M1 : Mem} : k60_par3 i j l ρ ds M1 = (match ds with
  | [x, y, z] => .nx (((ρ.set i (some x)).set j (some y)).set l (some z)) M1
  | _ => .bad) := rfl
theorem e_par3 {i : Nat} {j : Nat} {l : Nat} {a : YA} {ρ : Sl} {M : Mem} : y_par3 i j l a ρ M = ((a ρ M).bs ρ (k60_par3 i j l ρ)) := rfl
def k61_setF (C : Addr) (f : Str) (ρ : Sl) (d : D) (M1 : Mem) (x : D) (M2 : Mem) : RS := match x with
  | .ref n => (match insC M2 (.ref n) C with
    | some fs => if fs.length < 1000 then .nx ρ (M2.set n (.ins C (putD f d fs))) else .bad
    | none => .bad)
  | _ => .bad
theorem e_k61_setF {C : Addr} {f : Str} {ρ : Sl} {d : D} {M1 : Mem} {x : D} {M2 : Mem} : k61_setF C f ρ d M1 x M2 = (match x with
  | .ref n => (match insC M2 (.ref n) C with
    | some fs => if fs.length < 1000 then .nx ρ (M2.set n (.ins C (putD f d fs))) else .bad
    | none => .bad)
  | _ => .bad) := rfl
def k62_setF (C : Addr) (f : Str) (o : YE) (ρ : Sl) (d : D) (M1 : Mem) : RS := (o ρ M1).bs ρ (k61_setF C f ρ d M1)
theorem e_k62_setF {C : Addr} {f : Str} {o : YE} {ρ : Sl} {d : D} {M1 : Mem} : k62_setF C f o ρ d M1 = ((o ρ M1).bs ρ (k61_setF C f ρ d M1)) := rfl
theorem e_setF {C : Addr} {f : Str} {o : YE} {v : YE} {ρ : Sl} {M : Mem} : y_setF C f o v ρ M = ((v ρ M).bs ρ (k62_setF C f o ρ)) := rfl
def k63_dputK (ρ : Sl) (d : D) (M1 : Mem) (x : D) (M2 : Mem) (y : D) (M3 : Mem) : RS := match x with
  | .ref n => (match M3[n]?, keyOf y with
    | some (.dK kvs), some k => if kvs.length < 16777216 then .nx ρ (M3.set n (.dK (putDk kvs k d))) else .bad
    | _, _ => .bad)
  | _ => .bad
theorem e_k63_dputK {ρ : Sl} {d : D} {M1 : Mem} {x : D} {M2 : Mem} {y : D} {M3 : Mem} : k63_dputK ρ d M1 x M2 y M3 = (match x with
  | .ref n => (match M3[n]?, keyOf y with
    | some (.dK kvs), some k => if kvs.length < 16777216 then .nx ρ (M3.set n (.dK (putDk kvs k d))) else .bad
    | _, _ => .bad)
  | _ => .bad) := rfl
def k64_dputK (i : YE) (ρ : Sl) (d : D) (M1 : Mem) (x : D) (M2 : Mem) : RS := (i ρ M2).bs ρ (k63_dputK ρ d M1 x M2)
theorem e_k64_dputK {i : YE} {ρ : Sl} {d : D} {M1 : Mem} {x : D} {M2 : Mem} : k64_dputK i ρ d M1 x M2 = ((i ρ M2).bs ρ (k63_dputK ρ d M1 x M2)) := rfl
def k65_dputK (o : YE) (i : YE) (ρ : Sl) (d : D) (M1 : Mem) : RS := (o ρ M1).bs ρ (k64_dputK i ρ d M1)
theorem e_k65_dputK {o : YE} {i : YE} {ρ : Sl} {d : D} {M1 : Mem} : k65_dputK o i ρ d M1 = ((o ρ M1).bs ρ (k64_dputK i ρ d M1)) := rfl
theorem e_dputK {o : YE} {i : YE} {v : YE} {ρ : Sl} {M : Mem} : y_dputK o i v ρ M = ((v ρ M).bs ρ (k65_dputK o i ρ)) := rfl
def k66_dputT (ρ : Sl) (d : D) (M1 : Mem) (x : D) (M2 : Mem) (y : D) (M3 : Mem) : RS := match x with
  | .ref n => (match M3[n]?, tkOf y with
    | some (.dT kvs), some k => if kvs.length < 16777216 then .nx ρ (M3.set n (.dT (putDk kvs k d))) else .bad
    | _, _ => .bad)
  | _ => .bad
theorem e_k66_dputT {ρ : Sl} {d : D} {M1 : Mem} {x : D} {M2 : Mem} {y : D} {M3 : Mem} : k66_dputT ρ d M1 x M2 y M3 = (match x with
  | .ref n => (match M3[n]?, tkOf y with
    | some (.dT kvs), some k => if kvs.length < 16777216 then .nx ρ (M3.set n (.dT (putDk kvs k d))) else .bad
    | _, _ => .bad)
  | _ => .bad) := rfl
def k67_dputT (i : YE) (ρ : Sl) (d : D) (M1 : Mem) (x : D) (M2 : Mem) : RS := (i ρ M2).bs ρ (k66_dputT ρ d M1 x M2)
theorem e_k67_dputT {i : YE} {ρ : Sl} {d : D} {M1 : Mem} {x : D} {M2 : Mem} : k67_dputT i ρ d M1 x M2 = ((i ρ M2).bs ρ (k66_dputT ρ d M1 x M2)) := rfl
def k68_dputT (o : YE) (i : YE) (ρ : Sl) (d : D) (M1 : Mem) : RS := (o ρ M1).bs ρ (k67_dputT i ρ d M1)
theorem e_k68_dputT {o : YE} {i : YE} {ρ : Sl} {d : D} {M1 : Mem} : k68_dputT o i ρ d M1 = ((o ρ M1).bs ρ (k67_dputT i ρ d M1)) := rfl
theorem e_dputT {o : YE} {i : YE} {v : YE} {ρ : Sl} {M : Mem} : y_dputT o i v ρ M = ((v ρ M).bs ρ (k68_dputT o i ρ)) := rfl
def k69_ddel (ρ : Sl) (x : D) (M1 : Mem) (y : D) (M2 : Mem) : RS := match x with
  | .ref n => (match M2[n]? with
    | some (.dT kvs) => (match tkOf y with
      | some k => if (valD kvs k).isSome = true then .nx ρ (M2.set n (.dT (dropD kvs k))) else .bad
      | none => .bad)
    | _ => .bad)
  | _ => .bad
theorem e_k69_ddel {ρ : Sl} {x : D} {M1 : Mem} {y : D} {M2 : Mem} : k69_ddel ρ x M1 y M2 = (match x with
  | .ref n => (match M2[n]? with
    | some (.dT kvs) => (match tkOf y with
      | some k => if (valD kvs k).isSome = true then .nx ρ (M2.set n (.dT (dropD kvs k))) else .bad
      | none => .bad)
    | _ => .bad)
  | _ => .bad) := rfl
def k70_ddel (i : YE) (ρ : Sl) (x : D) (M1 : Mem) : RS := (i ρ M1).bs ρ (k69_ddel ρ x M1)
theorem e_k70_ddel {i : YE} {ρ : Sl} {x : D} {M1 : Mem} : k70_ddel i ρ x M1 = ((i ρ M1).bs ρ (k69_ddel ρ x M1)) := rfl
theorem e_ddel {o : YE} {i : YE} {ρ : Sl} {M : Mem} : y_ddel o i ρ M = ((o ρ M).bs ρ (k70_ddel i ρ)) := rfl
theorem e_augI {i : Nat} {o : Int → Int → Int} {e : YE} {ρ : Sl} {M : Mem} : y_augI i o e ρ M = (match ρ[i]? with
  | some (some (.int a)) => (e ρ M).bs ρ fun d M1 => (match d with
    | .int b => .nx (ρ.set i (some (.int (o a b)))) M1
    | _ => .bad)
  | _ => .bad) := rfl
def k71_raise (C : Addr) (f : Str) (ρ : Sl) (d : D) (M1 : Mem) : RS := .xc (.ref C) (some [(f, d)]) ρ M1
theorem e_k71_raise {C : Addr} {f : Str} {ρ : Sl} {d : D} {M1 : Mem} : k71_raise C f ρ d M1 = (.xc (.ref C) (some [(f, d)]) ρ M1) := rfl
theorem e_raise {C : Addr} {f : Str} {e : YE} {ρ : Sl} {M : Mem} : y_raise C f e ρ M = ((e ρ M).bs ρ (k71_raise C f ρ)) := rfl
def k72_setO (C : Addr) (f : List D → Mem → R D) (ρ : Sl) (d : D) (M1 : Mem) (x : D) (M2 : Mem) (y : D) (M3 : Mem) : RS := match insC M3 x C with
  | some _ => (f [x, y, d] M3).bs ρ fun _ M4 => .nx ρ M4
  | none => .bad
theorem e_k72_setO {C : Addr} {f : List D → Mem → R D} {ρ : Sl} {d : D} {M1 : Mem} {x : D} {M2 : Mem} {y : D} {M3 : Mem} : k72_setO C f ρ d M1 x M2 y M3 = (match insC M3 x C with
  | some _ => (f [x, y, d] M3).bs ρ fun _ M4 => .nx ρ M4
  | none => .bad) := rfl
def k73_setO (C : Addr) (f : List D → Mem → R D) (i : YE) (ρ : Sl) (d : D) (M1 : Mem) (x : D) (M2 : Mem) : RS := (i ρ M2).bs ρ (k72_setO C f ρ d M1 x M2)
theorem e_k73_setO {C : Addr} {f : List D → Mem → R D} {i : YE} {ρ : Sl} {d : D} {M1 : Mem} {x : D} {M2 : Mem} : k73_setO C f i ρ d M1 x M2 = ((i ρ M2).bs ρ (k72_setO C f ρ d M1 x M2)) := rfl
def k74_setO (C : Addr) (f : List D → Mem → R D) (o : YE) (i : YE) (ρ : Sl) (d : D) (M1 : Mem) : RS := (o ρ M1).bs ρ (k73_setO C f i ρ d M1)
theorem e_k74_setO {C : Addr} {f : List D → Mem → R D} {o : YE} {i : YE} {ρ : Sl} {d : D} {M1 : Mem} : k74_setO C f o i ρ d M1 = ((o ρ M1).bs ρ (k73_setO C f i ρ d M1)) := rfl
theorem e_setO {C : Addr} {f : List D → Mem → R D} {o : YE} {i : YE} {v : YE} {ρ : Sl} {M : Mem} : y_setO C f o i v ρ M = ((v ρ M).bs ρ (k74_setO C f o i ρ)) := rfl
def k75_cval (C : Addr) (d : D) (ρ : Sl) (x : D) (M1 : Mem) : R D := match x with
  | .glo C' => if C' = C then .ok d M1 else .bad
  | _ => .bad
theorem e_k75_cval {C : Addr} {d : D} {ρ : Sl} {x : D} {M1 : Mem} : k75_cval C d ρ x M1 = (match x with
  | .glo C' => if C' = C then .ok d M1 else .bad
  | _ => .bad) := rfl
theorem e_cval {C : Addr} {d : D} {a : YE} {ρ : Sl} {M : Mem} : y_cval C d a ρ M = ((a ρ M).bd (k75_cval C d ρ)) := rfl
theorem e_at {F : Nat → YS} {ρ : Sl} {M : Mem} : y_at F ρ M = (F (M.length - 1) ρ M) := rfl
theorem e_for  {it : YI} {g : YG} {b : YS} {ρ : Sl} {M : Mem} : y_for it g b ρ M = ((it ρ M).bs ρ fun p M1 => forL g b p.2 p.1 ρ M1) := rfl
theorem e_lc  {it : YI} {g : YG} {t : YT} {e : YE} {vs : List Nat} {ρ : Sl} {M : Mem} : y_lc it g t e vs ρ M = ((it ρ M).bd fun p M1 => if p.1.length < 16777216 then (lcL g t e vs ρ p.2 p.1 M1).nox.bd fun ys M2 => .ok (.lst ys) M2 else .bad) := rfl
theorem e_lcM  {it : YI} {g : YG} {t : YT} {e : YE} {vs : List Nat} {ρ : Sl} {M : Mem} : y_lcM it g t e vs ρ M = ((it ρ M).bd fun p M1 => if p.1.length < 16777216 then (lcL g t e vs ρ p.2 p.1 M1).nox.bd fun ys M2 => if bndL M1.length ys then .ok (.ref M2.length) (M2 ++ [.lst ys]) else .bad else .bad) := rfl
theorem e_g_nm  {i : Nat} {d : D} {ρ : Sl} {M : Mem} : g_nm i d ρ M = (some (ρ.set i (some d), M)) := rfl
theorem e_g_nil  {ds : List D} {ρ : Sl} {M : Mem} : g_nil  ds ρ M = (match ds with
  | [] => some (ρ, M)
  | _ => none) := rfl
theorem e_g_cons  {g : YG} {gs : YGs} {ds : List D} {ρ : Sl} {M : Mem} : g_cons g gs ds ρ M = (match ds with
  | d :: r => (match g d ρ M with
    | some (ρ1, M1) => gs r ρ1 M1
    | none => none)
  | [] => none) := rfl
theorem e_g_tup  {n : Nat} {gs : YGs} {d : D} {ρ : Sl} {M : Mem} : g_tup n gs d ρ M = (match d with
  | .tup ds => if ds.length = n then gs ds ρ M else none
  | _ => none) := rfl
theorem e_g_unl  {n : Nat} {gs : YGs} {d : D} {ρ : Sl} {M : Mem} : g_unl n gs d ρ M = (match asL M d with
  | some ds => if ds.length = n then gs ds ρ M else none
  | none => none) := rfl
theorem e_g_setL  {a b : YE} {d : D} {ρ : Sl} {M : Mem} : g_setL a b d ρ M = (match a ρ M with
  | .ok (.ref n) M1 => (match b ρ M1 with
    | .ok (.int k) M2 => (match M2[n]? with
      | some (.lst ds) => (ixN ds.length k).map fun j => (ρ, M2.set n (.lst (ds.set j d)))
      | _ => none)
    | _ => none)
  | _ => none) := rfl
theorem e_i_any  {e : YE} {ρ : Sl} {M : Mem} : i_any e ρ M = ((e ρ M).bd fun x M1 => match itD M1 x with
  | some p => .ok p M1
  | none => .bad : R (List D × (Mem → Prop))) := rfl
theorem e_i_rng1  {a : YA} {ρ : Sl} {M : Mem} : i_rng1 a ρ M = ((a ρ M).bd fun ds M1 => match ds with
  | [.int j] => if -(4611686018427387904) ≤ j ∧ j < 4611686018427387904 then .ok (rngD 0 j.toNat, fun _ => True) M1 else .bad
  | _ => .bad : R (List D × (Mem → Prop))) := rfl
theorem e_i_rng2  {a : YA} {ρ : Sl} {M : Mem} : i_rng2 a ρ M = ((a ρ M).bd fun ds M1 => match ds with
  | [.int i, .int j] => if -(4611686018427387904) ≤ i ∧ i < 4611686018427387904 ∧ -(4611686018427387904) ≤ j ∧ j < 4611686018427387904 then .ok (rngD i (j - i).toNat, fun _ => True) M1 else .bad
  | _ => .bad : R (List D × (Mem → Prop))) := rfl
theorem e_i_rng3  {a : YA} {ρ : Sl} {M : Mem} : i_rng3 a ρ M = ((a ρ M).bd fun ds M1 => match ds with
  | [.int i, .int j, .int c] => (match rng3D i j c with
    | some l => .ok (l, fun _ => True) M1
    | none => .bad)
  | _ => .bad : R (List D × (Mem → Prop))) := rfl
theorem e_i_enum  {a : YA} {ρ : Sl} {M : Mem} : i_enum a ρ M = ((a ρ M).bd fun ds M1 => match ds with
  | [x] => (match asL M1 x with
    | some xs => .ok (enumD 0 xs, gL x xs) M1
    | none => .bad)
  | _ => .bad : R (List D × (Mem → Prop))) := rfl
theorem e_i_zip  {a : YA} {ρ : Sl} {M : Mem} : i_zip a ρ M = ((a ρ M).bd fun ds M1 => match ds with
  | [x, y] => (match asL M1 x, asL M1 y with
    | some xs, some ys => .ok (zipD xs ys, gLL x y xs ys) M1
    | _, _ => .bad)
  | _ => .bad : R (List D × (Mem → Prop))) := rfl
theorem e_i_keysK  {a : YE} {ρ : Sl} {M : Mem} : i_keysK a ρ M = ((a ρ M).bd fun x M1 => match x with
  | .ref n => (match M1[n]? with
    | some (.fK o kvs) => .ok (kvs.map fun kv => keyD kv.1, fun M' => M'[n]? = some (.fK o kvs)) M1
    | _ => .bad)
  | _ => .bad : R (List D × (Mem → Prop))) := rfl
theorem e_i_keysT  {a : YE} {ρ : Sl} {M : Mem} : i_keysT a ρ M = ((a ρ M).bd fun x M1 => match x with
  | .ref n => (match M1[n]? with
    | some (.fT o kvs) => .ok (kvs.map fun kv => .tup (kv.1.map keyD), fun M' => M'[n]? = some (.fT o kvs)) M1
    | _ => .bad)
  | _ => .bad : R (List D × (Mem → Prop))) := rfl
theorem e_o_sub  {x : D} {y : D} {a2 : Mem} : o_sub  x y a2 = (match x, y with
  | .int i, .int j => some (.int (i - j))
  | _, _ => none) := rfl
theorem e_o_mul  {x : D} {y : D} {a2 : Mem} : o_mul  x y a2 = (match x, y with
  | .int i, .int j => if (-(18446744073709551616) < i ∧ i < 18446744073709551616) ∨ (-(18446744073709551616) < j ∧ j < 18446744073709551616) then some (.int (i * j)) else none
  | _, _ => none) := rfl
theorem e_o_mulS  {x : D} {y : D} {a2 : Mem} : o_mulS  x y a2 = (match x, y with
  | .str a, .int j => if 2 ≤ j ∧ j ≤ 10000 ∧ 1 ≤ a.length ∧ a.length ≤ 100 then some (.str (mulS j.toNat a)) else none
  | _, _ => none) := rfl
theorem e_o_mod  {x : D} {y : D} {a2 : Mem} : o_mod  x y a2 = (match x, y with
  | .int i, .int j => if 0 < j then some (.int (i % j)) else none
  | _, _ => none) := rfl
theorem e_o_div  {x : D} {y : D} {a2 : Mem} : o_div  x y a2 = (match x, y with
  | .int i, .int j => if 0 < j ∧ j.natAbs.log2 < 9000 then some (.int (i / j)) else none
  | _, _ => none) := rfl
theorem e_o_pow  {x : D} {y : D} {a2 : Mem} : o_pow  x y a2 = (match x, y with
  | .int i, .int j => if 0 ≤ j ∧ j ≤ 1000000 ∧ i.natAbs < 18446744073709551616 then some (.int (i ^ j.toNat)) else none
  | _, _ => none) := rfl
theorem e_o_lt  {x : D} {y : D} {a2 : Mem} : o_lt  x y a2 = (match x, y with
  | .int i, .int j => some (.bl (decide (i < j)))
  | _, _ => none) := rfl
theorem e_o_le  {x : D} {y : D} {a2 : Mem} : o_le  x y a2 = (match x, y with
  | .int i, .int j => some (.bl (decide (i ≤ j)))
  | _, _ => none) := rfl
theorem e_o_gt  {x : D} {y : D} {a2 : Mem} : o_gt  x y a2 = (match x, y with
  | .int i, .int j => some (.bl (decide (j < i)))
  | _, _ => none) := rfl
theorem e_o_ge  {x : D} {y : D} {a2 : Mem} : o_ge  x y a2 = (match x, y with
  | .int i, .int j => some (.bl (decide (j ≤ i)))
  | _, _ => none) := rfl
theorem e_u_neg  {x : D} {a1 : Mem} : u_neg  x a1 = (match x with
  | .int i => some (.int (-i))
  | _ => none) := rfl
theorem e_o_add  {x : D} {y : D} {M : Mem} : o_add  x y M = (match x with
  | .int i => (match y with
    | .int j => some (.int (i + j))
    | _ => none)
  | .str a => (match y with
    | .str b => if a.length + b.length ≤ 16777216 then some (.str (a ++ b)) else none
    | _ => none)
  | .tup xs => (match y with
    | .tup ys => if xs.length + ys.length ≤ 16777216 then some (.tup (xs ++ ys)) else none
    | _ => none)
  | x => addD x y M) := rfl
theorem e_o_eq  {x : D} {y : D} {M : Mem} : o_eq  x y M = ((eqD M x y).map .bl) := rfl
theorem e_o_ne  {x : D} {y : D} {M : Mem} : o_ne  x y M = ((eqD M x y).map fun b => .bl (!b)) := rfl
theorem e_o_neSs  {x : D} {y : D} {M : Mem} : o_neSs  x y M = (match (asL M x).bind strsOf, (asL M y).bind strsOf with
  | some a, some b => some (.bl (!decide (a = b)))
  | _, _ => none) := rfl
theorem e_o_in  {neg : Bool} {x : D} {y : D} {M : Mem} : o_in neg x y M = (match flat? x, (asS M y).bind flats? with
  | some u, some us => some (.bl (if neg then !inV u us else inV u us))
  | _, _ => none) := rfl
theorem e_o_inD  {x : D} {y : D} {M : Mem} : o_inD  x y M = ((inDD M x y).map .bl) := rfl
theorem e_o_notInD  {x : D} {y : D} {M : Mem} : o_notInD  x y M = ((inDD M x y).map fun b => .bl (!b)) := rfl
theorem e_o_inS  {neg : Bool} {x : D} {y : D} {a2 : Mem} : o_inS neg x y a2 = (match x, y with
  | .str a, .str z => (match a.cps.toList with
    | [c] => some (.bl (if neg then !decide (c ∈ z.cps.toList) else decide (c ∈ z.cps.toList)))
    | _ => none)
  | _, _ => none) := rfl
theorem e_o_ix  {x : D} {y : D} {M : Mem} : o_ix  x y M = (match y with
  | .int i => (match x with
    | .str z => if z.length ≤ 16777216 then (atI z.cps.toList i).map fun c => .str ⟨#[c]⟩ else none
    | x => (asS M x).bind fun ds => atI ds i)
  | _ => none) := rfl
theorem e_c_len  {xs : List D} {M : Mem} : c_len  xs M = (match xs with
  | [.str z] => if z.length ≤ 16777216 then some (.int (z.length : Int), M) else none
  | [x] => (asS M x).map fun ds => (.int (ds.length : Int), M)
  | _ => none) := rfl
theorem e_c_lenK  {xs : List D} {M : Mem} : c_lenK  xs M = (match xs with
  | [x] => (dkD M x).map fun ds => (.int (ds.length : Int), M)
  | _ => none) := rfl
theorem e_c_lenT  {xs : List D} {M : Mem} : c_lenT  xs M = (match xs with
  | [.ref n] => (match M[n]? with
    | some (.dT kvs) => some (.int (kvs.length : Int), M)
    | _ => none)
  | _ => none) := rfl
theorem e_c_int  {xs : List D} {M : Mem} : c_int  xs M = (match xs with
  | [.int i] => some (.int i, M)
  | [.bl b] => some (.int (if b then 1 else 0), M)
  | _ => none) := rfl
theorem e_c_intT  {xs : List D} {M : Mem} : c_intT  xs M = (match xs with
  | [.str a] => if a.length ≤ 640 then (PySem.intText? a).map fun n => (.int n, M) else none
  | _ => none) := rfl
theorem e_c_strI  {xs : List D} {M : Mem} : c_strI  xs M = (match xs with
  | [.int i] => if i.natAbs.log2 < 1920 then some (.str (toString i), M) else none
  | _ => none) := rfl
theorem e_c_abs  {xs : List D} {M : Mem} : c_abs  xs M = (match xs with
  | [.int i] => some (.int (if i < 0 then -i else i), M)
  | _ => none) := rfl
theorem e_c_max2  {xs : List D} {M : Mem} : c_max2  xs M = (match xs with
  | [.int i, .int j] => some (.int (if j > i then j else i), M)
  | _ => none) := rfl
theorem e_c_min2  {xs : List D} {M : Mem} : c_min2  xs M = (match xs with
  | [.int i, .int j] => some (.int (if j < i then j else i), M)
  | _ => none) := rfl
theorem e_c_tup  {xs : List D} {M : Mem} : c_tup  xs M = (match xs with
  | [x] => if isKt x then none else (asS M x).map fun ds => (.tup ds, M)
  | _ => none) := rfl
theorem e_c_lst  {xs : List D} {M : Mem} : c_lst  xs M = (match xs with
  | [x] => (asS M x).map fun ds => (.lst ds, M)
  | _ => none) := rfl
theorem e_c_lstM  {xs : List D} {M : Mem} : c_lstM  xs M = (match xs with
  | [x] => (asS M x).map fun ds => (.ref M.length, M ++ [.lst ds])
  | _ => none) := rfl
theorem e_c_all  {xs : List D} {M : Mem} : c_all  xs M = (match xs with
  | [x] => ((asL M x).bind blsOf).map fun bs => (.bl (bs.all id), M)
  | _ => none) := rfl
theorem e_c_any  {xs : List D} {M : Mem} : c_any  xs M = (match xs with
  | [x] => ((asL M x).bind blsOf).map fun bs => (.bl (bs.any id), M)
  | _ => none) := rfl
theorem e_c_isi  {xs : List D} {M : Mem} : c_isi  xs M = (match xs with
  | [x, .ty n] => (match tyN M x with
    | some t => if bTys.contains t && bTys.contains n then some (.bl (isTy t n), M) else none
    | none => none)
  | _ => none) := rfl
theorem e_c_sorted  {xs : List D} {M : Mem} : c_sorted  xs M = (match xs with
  | [x] => (sortedD M x).map fun ds => (.lst ds, M)
  | _ => none) := rfl
theorem e_c_sortM  {xs : List D} {M : Mem} : c_sortM  xs M = (match xs with
  | [x] => (sortedD M x).map fun ds => (.ref M.length, M ++ [.lst ds])
  | _ => none) := rfl
theorem e_c_maxL  {xs : List D} {M : Mem} : c_maxL  xs M = (match xs with
  | [x] => ((asL M x).bind intsOf).bind fun ns => if ns.isEmpty then none else some (.int (maxI ns), M)
  | _ => none) := rfl
theorem e_m_append  {x : D} {xs : List D} {M : Mem} : m_append  x xs M = (match x, xs with
  | .ref h, [y] => (match M[h]? with
    | some (.lst ds) => if ds.length < 16777216 then some (.non, M.set h (.lst (ds ++ [y]))) else none
    | _ => none)
  | _, _ => none) := rfl
theorem e_m_extend  {x : D} {xs : List D} {M : Mem} : m_extend  x xs M = (match x, xs with
  | .ref h, [y] => (match M[h]?, asL M y with
    | some (.lst ds), some es => if ds.length + es.length ≤ 16777216 then some (.non, M.set h (.lst (ds ++ es))) else none
    | _, _ => none)
  | _, _ => none) := rfl
theorem e_m_split  {x : D} {xs : List D} {M : Mem} : m_split  x xs M = (match x, xs with
  | .str a, [.str b] => if (b.length == 0) = false ∧ a.length + 2 ≤ 16777216 then some (.lst ((Txt.split a b).map D.str), M) else none
  | _, _ => none) := rfl
theorem e_m_join  {x : D} {xs : List D} {M : Mem} : m_join  x xs M = (match x, xs with
  | .str a, [y] => ((asS M y).bind strsOf).bind fun ys => if (ys.map (·.length)).sum + ys.length * a.length ≤ 16777216 then some (.str (Txt.join a ys), M) else none
  | _, _ => none) := rfl
theorem e_c_strO  {C : Addr} {f : List D → Mem → R D} {xs : List D} {M : Mem} : c_strO C f xs M = (match xs with
  | [x] => (match insC M x C with
    | some _ => (f [x] M).bd fun d M1 => (match d with
      | .str z => .ok (.str z) M1
      | _ => .bad)
    | none => .bad)
  | _ => .bad) := rfl
theorem e_c_lenO  {C : Addr} {f : List D → Mem → R D} {xs : List D} {M : Mem} : c_lenO C f xs M = (match xs with
  | [x] => (match insC M x C with
    | some _ => (f [x] M).bd fun d M1 => (match d with
      | .int i => if 0 ≤ i ∧ i < 2 ^ 63 then .ok (.int i) M1 else .bad
      | _ => .bad)
    | none => .bad)
  | _ => .bad) := rfl
theorem e_c_boolO  {C : Addr} {f : List D → Mem → R D} {xs : List D} {M : Mem} : c_boolO C f xs M = (match xs with
  | [x] => (match insC M x C with
    | some _ => (f [x] M).bd fun d M1 => (match d with
      | .int i => if 0 ≤ i ∧ i < 2 ^ 63 then .ok (.bl (i != 0)) M1 else .bad
      | _ => .bad)
    | none => .bad)
  | _ => .bad) := rfl
theorem e_o_inO  {C : Addr} {f : List D → Mem → R D} {neg : Bool} {x : D} {y : D} {M : Mem} : o_inO C f neg x y M = (match insC M y C with
  | some _ => (f [y, x] M).bd fun d M1 => (match d with
    | .bl b => .ok (.bl (if neg then !b else b)) M1
    | _ => .bad)
  | none => .bad) := rfl
theorem e_o_eqO  {C B : Addr} {f : List D → Mem → R D} {x : D} {y : D} {M : Mem} : o_eqO C B f x y M = (match insC M x C, insC M y B with
  | some _, some _ => (f [x, y] M).bd fun d M1 => (match d with
    | .bl b => .ok (.bl b) M1
    | _ => .bad)
  | _, _ => .bad) := rfl
theorem e_c_isiO  {C : Addr} {xs : List D} {M : Mem} : c_isiO C xs M = (match xs with
  | [x, .glo C'] => if C' = C then (match insC M x C with
    | some _ => some (.bl true, M)
    | none => (match tyN M x with
      | some t => if bTys.contains t then some (.bl false, M) else none
      | none => none)) else none
  | _ => none) := rfl
theorem e_var0 {d : D} {r : Sl} {M : Mem} : y_var 0 (some d :: r) M = .ok d M := rfl
theorem e_varS {i : Nat} {o : Option D} {r : Sl} {M : Mem} : y_var (i + 1) (o :: r) M = y_var i r M := rfl
theorem e_jsN {acc : Str} {ρ : Sl} {M : Mem} : jsL [] acc ρ M = .ok (.str acc) M := rfl
theorem e_jsC {t : YE} {ts : List YE} {acc : Str} {ρ : Sl} {M : Mem} : jsL (t :: ts) acc ρ M = (t ρ M).bd fun x M1 => match x with
    | .str y => if (acc ++ y).length ≤ 16777216 then jsL ts (acc ++ y) ρ M1 else .bad
    | _ => .bad := rfl
theorem e_js {ts : List YE} {ρ : Sl} {M : Mem} : y_js ts ρ M = jsL ts Str.empty ρ M := rfl
theorem e_wipe0 {ρ : Sl} : wipeZ ρ [] = ρ := rfl
theorem e_wipeS {ρ : Sl} {v : Nat} {vs : List Nat} : wipeZ ρ (v :: vs) = (wipeZ ρ vs).set v none := rfl
theorem e_end_nx {ρ : Sl} {M : Mem} : y_end (.nx ρ M) = .ok .non M := rfl
theorem e_end_rt {d : D} {M : Mem} : y_end (.rt d M) = .ok d M := rfl
theorem e_end_xc {c : Value} {fo : Option (List (Str × D))} {ρ : Sl} {M : Mem} : y_end (.xc c fo ρ M) = .xc c fo M := rfl
theorem end_ite {c : Prop} [Decidable c] {a b : RS} : y_end (if c then a else b) = if c then y_end a else y_end b := by split <;> rfl
theorem gc_ite {c : Prop} [Decidable c] {M : Mem} {a b : R D} : y_gc M (if c then a else b) = if c then y_gc M a else y_gc M b := by split <;> rfl
theorem e_asL_ref {M : Mem} {h : Nat} : asL M (.ref h) = (match M[h]? with
    | some (.lst ds) => some ds
    | _ => none) := rfl
theorem e_asL_lst {M : Mem} {ds : List D} : asL M (.lst ds) = some ds := rfl
theorem e_asL_str {M : Mem} {z : Str} : asL M (.str z) = none := rfl
theorem e_asL_int {M : Mem} {z : Int} : asL M (.int z) = none := rfl
theorem e_asL_non {M : Mem} : asL M .non = none := rfl
theorem e_asL_tup {M : Mem} {ds : List D} : asL M (.tup ds) = none := rfl
theorem e_asS_ref {M : Mem} {h : Nat} : asS M (.ref h) = (match M[h]? with
    | some (.lst ds) => some ds
    | _ => none) := rfl
theorem e_asS_lst {M : Mem} {ds : List D} : asS M (.lst ds) = some ds := rfl
theorem e_asS_fz {M : Mem} {ds : List D} : asS M (.fz ds) = some ds := rfl
theorem e_asS_tup {M : Mem} {ds : List D} : asS M (.tup ds) = some ds := rfl
theorem e_asS_kt {M : Mem} {ds : List D} : asS M (.kt ds) = some ds := rfl
theorem e_dkD_ref {M : Mem} {h : Nat} : dkD M (.ref h) = (match M[h]? with
    | some (.dK ds) => some ds
    | _ => none) := rfl
theorem e_dkD_dk {M : Mem} {ds : List (Key × D)} : dkD M (.dk ds) = some ds := rfl
theorem e_insC {M : Mem} {n : Nat} {C : Addr} : insC M (.ref n) C = (match M[n]? with
    | some (.ins C' fs) => if C' = C then some fs else none
    | _ => none) := rfl
theorem e_at0 {α : Type} {x : α} {r : List α} : atI (x :: r) 0 = some x := atI_nat (n := 0) rfl
theorem e_at1 {α : Type} {x y : α} {r : List α} : atI (x :: y :: r) 1 = some y := atI_nat (n := 1) rfl
theorem e_at2 {α : Type} {x y z : α} {r : List α} : atI (x :: y :: z :: r) 2 = some z := atI_nat (n := 2) rfl
theorem e_at3 {α : Type} {x y z u : α} {r : List α} : atI (x :: y :: z :: u :: r) 3 = some u := atI_nat (n := 3) rfl
theorem e_at4 {α : Type} {x y z u v : α} {r : List α} : atI (x :: y :: z :: u :: v :: r) 4 = some v := atI_nat (n := 4) rfl
theorem e_at5 {α : Type} {x y z u v w : α} {r : List α} : atI (x :: y :: z :: u :: v :: w :: r) 5 = some w := atI_nat (n := 5) rfl
theorem ixN_nat {n i : Nat} (h : i < n) : ixN n (i : Int) = some i := by
  unfold ixN
  rw [if_pos (Int.natCast_nonneg i), if_pos (by omega)]
  rfl
theorem e_ix0 {n : Nat} : ixN (n + 1) 0 = some 0 := ixN_nat (i := 0) (by omega)
theorem e_ix1 {n : Nat} : ixN (n + 2) 1 = some 1 := ixN_nat (i := 1) (by omega)
theorem e_ix2 {n : Nat} : ixN (n + 3) 2 = some 2 := ixN_nat (i := 2) (by omega)
theorem strLit_inj {a b : String} (h : Str.ofString a = Str.ofString b) : a = b := by
  have h2 : a.toList.map Char.toNat = b.toList.map Char.toNat := by
    rw [Str.ofString_eq_toList, Str.ofString_eq_toList] at h
    have := congrArg (fun z : Str => z.cps.toList) h
    simpa using this
  have inj : ∀ x y : Char, x.toNat = y.toNat → x = y := fun x y e => Char.ext (UInt32.toNat.inj e)
  have h3 : a.toList = b.toList := by
    revert h2
    generalize a.toList = l
    generalize b.toList = r
    intro h2
    induction l generalizing r with
    | nil =>
      cases r with
      | nil => rfl
      | cons _ _ => cases h2
    | cons x l ih =>
      cases r with
      | nil => cases h2
      | cons y r =>
        rw [List.map_cons, List.map_cons, List.cons.injEq] at h2
        rw [inj _ _ h2.1, ih _ h2.2]
  exact String.ext h3
theorem strLit_eq {a b : String} : (Str.ofString a = Str.ofString b) = (a = b) := propext ⟨strLit_inj, fun h => by rw [h]⟩
theorem ec_0 : ((0 : Nat) : Int) = 0 := rfl
theorem ec_1 : ((1 : Nat) : Int) = 1 := rfl
theorem ec_2 : ((2 : Nat) : Int) = 2 := rfl
theorem ec_3 : ((3 : Nat) : Int) = 3 := rfl
theorem ec_4 : ((4 : Nat) : Int) = 4 := rfl
theorem ec_5 : ((5 : Nat) : Int) = 5 := rfl
theorem ec_6 : ((6 : Nat) : Int) = 6 := rfl
theorem ec_7 : ((7 : Nat) : Int) = 7 := rfl
theorem ec_8 : ((8 : Nat) : Int) = 8 := rfl
theorem ec_9 : ((9 : Nat) : Int) = 9 := rfl
theorem ec_10 : ((10 : Nat) : Int) = 10 := rfl
theorem ec_11 : ((11 : Nat) : Int) = 11 := rfl
theorem ec_12 : ((12 : Nat) : Int) = 12 := rfl
theorem ec_13 : ((13 : Nat) : Int) = 13 := rfl
theorem ec_14 : ((14 : Nat) : Int) = 14 := rfl
theorem ec_15 : ((15 : Nat) : Int) = 15 := rfl
theorem ec_16 : ((16 : Nat) : Int) = 16 := rfl
theorem ec_17 : ((17 : Nat) : Int) = 17 := rfl
theorem ec_18 : ((18 : Nat) : Int) = 18 := rfl
theorem ec_19 : ((19 : Nat) : Int) = 19 := rfl
theorem ec_20 : ((20 : Nat) : Int) = 20 := rfl
theorem ec_21 : ((21 : Nat) : Int) = 21 := rfl
theorem ec_22 : ((22 : Nat) : Int) = 22 := rfl
theorem ec_23 : ((23 : Nat) : Int) = 23 := rfl
theorem ec_24 : ((24 : Nat) : Int) = 24 := rfl
theorem ec_25 : ((25 : Nat) : Int) = 25 := rfl
theorem ec_26 : ((26 : Nat) : Int) = 26 := rfl
theorem ec_27 : ((27 : Nat) : Int) = 27 := rfl
theorem ec_28 : ((28 : Nat) : Int) = 28 := rfl
theorem ec_29 : ((29 : Nat) : Int) = 29 := rfl
theorem ec_30 : ((30 : Nat) : Int) = 30 := rfl
theorem ec_31 : ((31 : Nat) : Int) = 31 := rfl
theorem ec_32 : ((32 : Nat) : Int) = 32 := rfl
theorem ec_33 : ((33 : Nat) : Int) = 33 := rfl
theorem ec_34 : ((34 : Nat) : Int) = 34 := rfl
theorem ec_35 : ((35 : Nat) : Int) = 35 := rfl
theorem ec_36 : ((36 : Nat) : Int) = 36 := rfl
theorem ec_37 : ((37 : Nat) : Int) = 37 := rfl
theorem ec_38 : ((38 : Nat) : Int) = 38 := rfl
theorem ec_39 : ((39 : Nat) : Int) = 39 := rfl
theorem ec_40 : ((40 : Nat) : Int) = 40 := rfl
theorem na_2 : Int.natAbs (2 : Int) = 2 := rfl
theorem na_3 : Int.natAbs (3 : Int) = 3 := rfl
theorem na_5 : Int.natAbs (5 : Int) = 5 := rfl
theorem na_7 : Int.natAbs (7 : Int) = 7 := rfl
theorem na_10 : Int.natAbs (10 : Int) = 10 := rfl
theorem na_26 : Int.natAbs (26 : Int) = 26 := rfl
theorem na_31 : Int.natAbs (31 : Int) = 31 := rfl
theorem na_64 : Int.natAbs (64 : Int) = 64 := rfl
theorem na_100 : Int.natAbs (100 : Int) = 100 := rfl
theorem na_256 : Int.natAbs (256 : Int) = 256 := rfl
theorem na_1000 : Int.natAbs (1000 : Int) = 1000 := rfl
theorem na_4096 : Int.natAbs (4096 : Int) = 4096 := rfl
theorem ml_set {M : Mem} {i : Nat} {o : MO} : (M.set i o).length = M.length := List.length_set
theorem ml_app {M X : Mem} : (M ++ X).length = M.length + X.length := List.length_append
theorem mg_app0 {M X : Mem} : (M ++ X)[M.length]? = X[0]? := by
  rw [List.getElem?_append_right (Nat.le_refl _), Nat.sub_self]
theorem mg_app {M X : Mem} {k : Nat} : (M ++ X)[M.length + k]? = X[k]? := by
  rw [List.getElem?_append_right (Nat.le_add_right _ _), Nat.add_sub_cancel_left]
theorem mg_appO {M X : Mem} {i : Nat} {o : MO} (h : M[i]? = some o) : (M ++ X)[i]? = some o := (List.getElem?_append_left (List.getElem?_eq_some_iff.mp h).1).trans h
theorem ms_app0 {M X : Mem} {o : MO} : (M ++ X).set M.length o = M ++ X.set 0 o := by
  rw [List.set_append_right _ _ (Nat.le_refl _), Nat.sub_self]
theorem ms_app {M X : Mem} {k : Nat} {o : MO} : (M ++ X).set (M.length + k) o = M ++ X.set k o := by
  rw [List.set_append_right _ _ (Nat.le_add_right _ _), Nat.add_sub_cancel_left]
theorem mg_set {M : Mem} {i : Nat} {o : MO} (h : i < M.length) : (M.set i o)[i]? = some o := List.getElem?_set_self h
theorem m_lt {M : Mem} {i : Nat} {o : MO} (h : M[i]? = some o) : i < M.length := (List.getElem?_eq_some_iff.mp h).1
theorem Coll.refl (M : Mem) : Coll M M := fun _ _ _ h => .inl h
theorem Coll.app {M M' X : Mem} (h : Coll M M') (hl : M.length ≤ M'.length) : Coll M (M' ++ X) := fun i o hi e => h i o hi (by rwa [List.getElem?_append_left (by omega)] at e)
theorem Coll.set {M M' : Mem} {j : Nat} {o : MO} (h : Coll M M') (b : j < M.length → o.bnd M.length = true) : Coll M (M'.set j o) := fun i o' hi e => by
  by_cases q : j = i
  · subst q
    rw [List.getElem?_set, if_pos rfl] at e
    split at e
    · cases e
      exact .inr (b hi)
    · cases e
  · rw [List.getElem?_set_ne q] at e
    exact h i o' hi e
theorem gc_cut {M M' : Mem} {d : D} (h1 : d.bnd M.length = true) (h2 : Coll M M') : y_gc M (.ok d M') = .ok d (M'.take M.length) := by
  unfold y_gc
  exact if_pos ⟨h1, h2⟩
theorem gc_set {M : Mem} {d : D} {j : Nat} {o : MO} (h1 : d.bnd M.length = true) (h2 : o.bnd M.length = true) : y_gc M (.ok d (M.set j o)) = .ok d (M.set j o) := by
  rw [gc_cut h1 ((Coll.refl M).set fun _ => h2)]
  congr 1
  exact List.take_of_length_le (by rw [List.length_set]; exact Nat.le_refl _)
theorem gc_new {M M' : Mem} {d : D} (h1 : d.bnd M.length = false) : y_gc M (.ok d M') = .ok d M' := by
  unfold y_gc
  exact if_neg fun h => by rw [h1] at h; exact Bool.false_ne_true h.1
theorem gc_ref {M M' : Mem} {n : Nat} (h : M.length ≤ n) : y_gc M (.ok (.ref n) M') = .ok (.ref n) M' := gc_new (decide_eq_false (Nat.not_lt.mpr h))
theorem sat_ok {α : Type} {r : R α} {P : α → Mem → Prop} (h : r.sat P fun _ _ _ => False) : ∃ a M, r = .ok a M ∧ P a M := by
  cases r with
  | ok a M => exact ⟨a, M, rfl, h⟩
  | xc c fo M => exact h.elim
  | bad => exact h.elim
end Z
namespace Z
open PySem PySem.Spec PyProof.Rows L2
section
variable {yg : YG} {b : YS} {G : Mem → Prop} {t : YT} {e : YE} {ρ : Sl} {M : Mem} {Δ : Ed}
def EdT (Δ : Ed) (P : Sl → Mem → Prop) : Ed := { nx := P, rt := Δ.rt, bk := Δ.nx, ct := P, xn := Δ.xn }
theorem for_inv : ∀ (ds : List D) (Iv : Nat → Sl → Mem → Prop) {ρ : Sl} {M : Mem}, Iv 0 ρ M → (∀ i ρ M, Iv i ρ M → G M) →
    (∀ i d ρ M, ds[i]? = some d → Iv i ρ M → ((nxO (yg d ρ M)).th b).sat (EdT Δ (Iv (i + 1)))) → (∀ ρ M, Iv ds.length ρ M → Δ.nx ρ M) → (forL yg b G ds ρ M).sat Δ
  | [], Iv, ρ, M, h0, hG, _, fin => by
    unfold forL
    rw [if_pos (hG _ _ _ h0)]
    exact fin ρ M h0
  | d :: ds, Iv, ρ, M, h0, hG, step, fin => by
    unfold forL
    rw [if_pos (hG _ _ _ h0)]
    have h1 := step 0 d ρ M rfl h0
    have go : ∀ ρ2 M2, Iv 1 ρ2 M2 → (forL yg b G ds ρ2 M2).sat Δ := fun ρ2 M2 h2 => for_inv ds (fun i => Iv (i + 1)) h2 (fun i => hG (i + 1)) (fun i d' ρ M hd => step (i + 1) d' ρ M hd) fin
    cases q : yg d ρ M with
    | none => rw [q] at h1; exact h1.elim
    | some p =>
      obtain ⟨ρ1, M1⟩ := p
      rw [q] at h1
      have h2 : (b ρ1 M1).sat (EdT Δ (Iv 1)) := h1
      show (match b ρ1 M1 with
        | .nx ρ2 M2 => forL yg b G ds ρ2 M2
        | .ct ρ2 M2 => forL yg b G ds ρ2 M2
        | .bk ρ2 M2 => .nx ρ2 M2
        | .rt d M2 => .rt d M2
        | .xc c fo ρ2 M2 => .xc c fo ρ2 M2
        | .bad => .bad : RS).sat Δ
      cases z : b ρ1 M1 with
      | nx ρ2 M2 => rw [z] at h2; exact go ρ2 M2 h2
      | ct ρ2 M2 => rw [z] at h2; exact go ρ2 M2 h2
      | bk ρ2 M2 => rw [z] at h2; exact h2
      | rt d M2 => rw [z] at h2; exact h2
      | xc c fo ρ2 M2 => rw [z] at h2; exact h2
      | bad => rw [z] at h2; exact h2
theorem lc_filt {α : Type} {vs : List Nat} (φ : α → D) (p : α → Bool) (ψ : α → D) (hG : G M) : ∀ (xs : List α), (∀ a ∈ xs, ∃ ρ2, yg (φ a) (wipeZ ρ vs) M = some (ρ2, M) ∧ t ρ2 M = .ok (p a) M ∧ (p a = true → e ρ2 M = .ok (ψ a) M)) → lcL yg t e vs ρ G (xs.map φ) M = .ok ((xs.filter p).map ψ) M
  | [], _ => by
    unfold lcL
    exact if_pos hG
  | a :: xs, h => by
    rw [List.map_cons]
    unfold lcL
    rw [if_pos hG]
    obtain ⟨ρ2, h1, h2, h3⟩ := h a List.mem_cons_self
    have ih := lc_filt φ p ψ hG xs fun x hx => h x (List.mem_cons_of_mem _ hx)
    rw [h1, getO_some, bd_ok, h2, bd_ok, ih]
    cases hp : p a with
    | true =>
      rw [if_pos rfl, h3 hp, bd_ok, ih, bd_ok, List.filter_cons, if_pos hp]
      rfl
    | false =>
      rw [if_neg Bool.false_ne_true, List.filter_cons, if_neg (by rw [hp]; exact Bool.false_ne_true)]
theorem sat_th {r : RS} {k : Sl → Mem → RS} (P : Sl → Mem → Prop) (h1 : r.sat { Δ with nx := P }) (h2 : ∀ ρ M, P ρ M → (k ρ M).sat Δ) : (r.th k).sat Δ := by
  cases r with
  | nx ρ M => exact h2 ρ M h1
  | _ => exact h1
theorem sat_fn {s : RS} {Φ : D → Mem → Prop} {Ξ : XM} (h : s.sat { nx := fun _ M' => (y_gc M (.ok .non M')).sat Φ Ξ, rt := fun d M' => (y_gc M (.ok d M')).sat Φ Ξ, xn := fun c fo _ M' => (y_gc M (.xc c fo M')).sat Φ Ξ }) : (y_gc M (y_end s)).sat Φ Ξ := by
  cases s with
  | nx ρ M => exact h
  | rt d M => exact h
  | xc c fo ρ M => exact h
  | _ => exact h.elim
theorem eqD_int {i j : Int} : eqD M (.int i) (.int j) = some (decide (i = j)) := rfl
theorem eqD_str {i j : Str} : eqD M (.str i) (.str j) = some (decide (i = j)) := rfl
theorem eqD_bl {i j : Bool} : eqD M (.bl i) (.bl j) = some (i == j) := rfl
theorem eqD_lnil {xs : List D} : eqD M (.lst xs) (.lst []) = some xs.isEmpty := rfl
theorem eqD_tnil {xs : List D} : eqD M (.tup xs) (.tup []) = some xs.isEmpty := rfl
theorem eqD_rnil {n : Nat} : eqD M (.ref n) (.lst []) = (match asL M (.ref n) with
    | some xs => some xs.isEmpty
    | none => eqG M (.ref n) (.lst [])) := rfl
theorem e_getDS {n : Nat} {z : Str} : getD M (.ref n) (.str z) = (match M[n]? with
    | some (.dK kvs) => some (valD kvs (.inr z))
    | _ => none) := by
  unfold getD
  rw [e_dkD_ref]
  unfold dtD
  cases h : M[n]? with
  | none => simp only [h]
  | some o => cases o <;> simp only [h] <;> rfl
theorem e_keyS {z : Str} : keyOf (.str z) = some (.inr z) := rfl
theorem e_keyI {z : Int} : keyOf (.int z) = some (.inl z) := rfl
theorem Coll.trans {M M1 M2 : Mem} (h : Coll M M1) (g : Coll M1 M2) (hl : M1.length = M.length) : Coll M M2 := fun i o hi e => by
  rcases g i o (by omega) e with q | q
  · exact h i o hi q
  · rw [hl] at q
    exact .inr q
theorem lookup1 {a b : Str} {d : D} {r : List (Str × D)} : List.lookup a ((b, d) :: r) = if a = b then some d else List.lookup a r := by
  rw [List.lookup_cons]
  by_cases h : a = b
  · rw [if_pos h]
    subst h
    simp
  · rw [if_neg h]
    have : (a == b) = false := by simpa using h
    rw [this]
theorem s_nx {ρ : Sl} {M : Mem} {Δ : Ed} : (RS.nx ρ M).sat Δ = Δ.nx ρ M := rfl
theorem s_rt {d : D} {M : Mem} {Δ : Ed} : (RS.rt d M).sat Δ = Δ.rt d M := rfl
theorem s_bk {ρ : Sl} {M : Mem} {Δ : Ed} : (RS.bk ρ M).sat Δ = Δ.bk ρ M := rfl
theorem s_ct {ρ : Sl} {M : Mem} {Δ : Ed} : (RS.ct ρ M).sat Δ = Δ.ct ρ M := rfl
theorem s_xc {c : Value} {fo : Option (List (Str × D))} {ρ : Sl} {M : Mem} {Δ : Ed} : (RS.xc c fo ρ M).sat Δ = Δ.xn c fo ρ M := rfl
theorem s_ok {α : Type} {a : α} {M : Mem} {Φ : α → Mem → Prop} {Ξ : XM} : (R.ok a M).sat Φ Ξ = Φ a M := rfl
theorem s_xcR {α : Type} {c : Value} {fo : Option (List (Str × D))} {M : Mem} {Φ : α → Mem → Prop} {Ξ : XM} : (R.xc c fo M).sat Φ Ξ = Ξ c fo M := rfl
theorem gc_same {M M' : Mem} {d : D} (hl : M'.length = M.length) (h : Coll M M') : y_gc M (.ok d M') = .ok d M' := by
  cases hd : d.bnd M.length with
  | true =>
    rw [gc_cut hd h, ← hl, List.take_length]
  | false => exact gc_new hd
theorem gc_setS {M : Mem} {d : D} {j : Nat} {o : MO} (h2 : o.bnd M.length = true) : y_gc M (.ok d (M.set j o)) = .ok d (M.set j o) := gc_same List.length_set ((Coll.refl M).set fun _ => h2)
theorem gc_id {M : Mem} {d : D} : y_gc M (.ok d M) = .ok d M := gc_same rfl (Coll.refl M)
end
end Z
namespace Z
open PySem PySem.Spec PyProof.Rows L2
section
variable {K : PySem.W.Frag} {W : WX} {ρ : Sl} {M : Mem} {Ξ : XN} {te : TE} {tA : TA} {Δ : Ed} {wi : TI} {g : TG} {tb : TS}
theorem ew_lcMG {tt : TT} {te : TE} {vs : List Nat} {Φ : D → Mem → Prop} (hg : WpOK g vs)
    (h : IW K W wi ρ M (fun ds G M1 => ∃ Iv : Nat → List D → Mem → Prop, Iv 0 [] M1 ∧ (∀ i acc M', Iv i acc M' → G M' ∧ acc.length < sizeLine) ∧
      (∀ i d acc M', ds[i]? = some d → Iv i acc M' → GW K g d (wipeZ ρ vs) M' fun ρ2 M2 => ET K W0 tt ρ2 M2 (fun b M3 => (b = true → EW K W0 te ρ2 M3 (fun y M4 => WkG M1.length (Iv (i + 1)) (acc ++ [y]) M4) Ξ0) ∧ (b = false → WkG M1.length (Iv (i + 1)) acc M3)) Ξ0) ∧
      ∀ acc M', Iv ds.length acc M' → Φ (.ref M'.length) (M' ++ [.lst acc])) Ξ) : EW K W (tLcM wi g tt te vs) ρ M Φ Ξ := fun w σ Q gm e ok =>
  fun k => h w σ _ gm e ok fun J w1 ds G M1 e1 g1 jz ⟨Iv, i0, iG, turn, fin⟩ => by
    intro p hD
    obtain ⟨hB, hA⟩ := g1.free hD
    have hn : w1.α.length ≤ M1.length := Nat.le_of_eq g1.len
    refine ⟨fun i m H => m = ds.length - i ∧ i ≤ ds.length ∧ ∃ w' M' acc L, w'.H = H ∧ Ext (w1.sw p (.lst L)) w' ∧ GM K w' M' ∧ w'.H p = some (.lst L) ∧ RepL K w' acc L ∧ Iv i acc M', ⟨ds.length, rfl, Nat.zero_le _, w1.sw p (.lst []), M1, [], [], rfl, Ext.refl _, g1.sw hB hA, upd_same, rfl, i0⟩, ?_⟩
    rintro i m H ⟨rfl, hi, w', M', acc, L, rfl, e', g', hp, rl, inv⟩
    have jz' : JZ K J ds (w1.sw p (.lst L)) G := fun i w' M' a b c => jz i w' M' ((show Ext w1 (w1.sw p (.lst L)) from ⟨Same.refl _, ⟨[], (List.append_nil _).symm⟩, fun a u h _ => by
      show upd w1.H p _ a = some u
      rw [upd_ne (ne_of_none h hD)]
      exact h, fun a u h => .inl h, fun a h => .inl h, fun a h => upd_st h⟩).trans a) b c
    obtain ⟨z1, z2⟩ := jz' i w' M' e' g' (iG _ _ _ inv).1
    by_cases hlt : i < ds.length
    · have hd : ds[i]? = some ds[i] := by simp [hlt]
      obtain ⟨go, step⟩ := z1 _ hd
      refine .inr ⟨go, fun H2 => ∃ w2 M2 acc L, w2.H = H2 ∧ Ext (w1.sw p (.lst L)) w2 ∧ GM K w2 M2 ∧ w2.H p = some (.lst L) ∧ RepL K w2 acc L ∧ Iv (i + 1) acc M2, fun H2 ⟨w2, M2, acc, L, a, b, c, d, f, u⟩ => ⟨ds.length - (i + 1), by omega, rfl, hlt, w2, M2, acc, L, a, b, c, d, f, u⟩, fun x H' y => ?_⟩
      obtain ⟨w2, rfl, e2, g2, rx⟩ := step x H' y
      have hpw : ∀ {u : Wd}, Ext (w1.sw p (.lst L)) u → u.H p = some (.lst L) := fun {u} q => q.fr p _ upd_same hA
      have eσ : RepE K w1 ρ σ := e.mono e1
      have eσ2 : RepE K w2 (wipeZ ρ vs) (wipe σ vs) := wipeZ_rep ((eσ.sw (p := p) (o := .lst L)).mono (e'.trans e2)) vs
      have back : ∀ {Q : L2.St → Hp → Prop}, g x (wipe σ vs) w2.H Q → g x (wipe σ vs) w2.H fun σ2 H2 => wipe σ2 vs = wipe σ vs ∧ Q σ2 H2 := fun {Q} q => by
        have z := hg x (wipe σ vs) w2.H Q q
        rw [wipe_wipe] at z
        exact z
      refine back (turn i _ acc M' hd inv w2 (wipe σ vs) x _ g2 eσ2 rx fun ρ3 M3 σ3 w3 e3 g3 r3 sw => ?_)
      refine sw w3 σ3 _ g3 r3 xok0 fun b w4 M4 e4 g4 q4 => ?_
      have e04 : Ext (w1.sw p (.lst L)) w4 := ((e'.trans e2).trans e3).trans e4
      have lsz := (iG _ _ _ inv).2
      cases b with
      | true =>
        refine iteT (q4.1 rfl w4 σ3 _ g4 (r3.mono e4) xok0 fun yv w5 yd M5 e5 g5 r5 q5 => ?_)
        have e05 := e04.trans e5
        obtain ⟨oB, oA⟩ := sw_out hB hA e05
        have rl5 : RepL K w5 acc L := RepL.mono (((e2.trans e3).trans e4).trans e5) _ _ rl
        refine ⟨L, hpw e05, by rw [← rl5.length]; exact lsz, ?_⟩
        have rl6 : RepL K (w5.sw p (.lst (L ++ [yv]))) (acc ++ [yd]) (L ++ [yv]) := RepL.append (RepL.sameBα (w := w5) rfl rfl rl5) (RepL.sameBα (w := w5) rfl rfl (RepL.one r5))
        have e06 : Ext (w1.sw p (.lst (L ++ [yv]))) (w5.sw p (.lst (L ++ [yv]))) := ext_sw e05
        obtain ⟨w7, M7, a1, a2, a3, a4, a5, a6⟩ := q5.run e06 hn (g5.sw oB oA)
        refine ⟨w7, M7, acc ++ [yd], L ++ [yv], a1, a4, a5, by rw [a1]; exact upd_same, ?_, a6⟩
        rcases a3 with ⟨n, h2, hb⟩ | h2
        · subst h2
          exact RepL.cut _ _ rl6 hb
        · subst h2
          exact rl6
      | false =>
        refine iteF ?_
        have rl4 : RepL K w4 acc L := RepL.mono ((e2.trans e3).trans e4) _ _ rl
        obtain ⟨w7, M7, a1, a2, a3, a4, a5, a6⟩ := (q4.2 rfl).run e04 hn g4
        refine ⟨w7, M7, acc, L, a1, a4, a5, by rw [a1]; exact hpw e04, ?_, a6⟩
        rcases a3 with ⟨n, h2, hb⟩ | h2
        · subst h2
          exact RepL.cut _ _ rl4 hb
        · subst h2
          exact rl4
    · have he : i = ds.length := by omega
      subst he
      refine .inl ⟨z2 rfl, ?_⟩
      obtain ⟨oB, oA⟩ := sw_out hB hA e'
      have ef : Ext w1 ⟨w'.B, w'.α ++ [p], w'.H⟩ := ext_finM hD e'
      have eB : Same w'.B (⟨w'.B, w'.α ++ [p], w'.H⟩ : Wd).B := Same.refl _
      have eα : ∃ β, (⟨w'.B, w'.α ++ [p], w'.H⟩ : Wd).α = w'.α ++ β := ⟨[p], rfl⟩
      have eg : GM K ⟨w'.B, w'.α ++ [p], w'.H⟩ (M' ++ [.lst acc]) := g'.joined oB oA hp rl
      refine k (.ref p) ⟨w'.B, w'.α ++ [p], w'.H⟩ (.ref M'.length) _ (e1.trans ef) eg ⟨p, ?_, rfl⟩ (fin acc M' inv)
      show (w'.α ++ [p])[M'.length]? = some p
      rw [← g'.len]
      simp
end
noncomputable def y_lcMG (it : YI) (g : YG) (t : YT) (e : YE) (vs : List Nat) : YE := fun ρ M => (it ρ M).bd fun p M1 => if p.1.length < 16777216 then (lcL g t e vs ρ p.2 p.1 M1).nox.bd fun ys M2 => .ok (.ref M2.length) (M2 ++ [.lst ys]) else .bad
section
variable {K : PySem.W.Frag} {W : WX} {te : TE} {tA : TA} {tt : TT} {wi : TI} {g : TG} {tb ts : TS} {e : YE} {xs : YA} {t : YT} {it : YI} {yg : YG} {b s : YS}
theorem k_lcMG {vs : List Nat} (hv : WpOK g vs) (hi : OkI K W wi it) (hg : OkG K g yg) (ht : OkT K W0 tt t) (he : OkE K W0 te e) : OkE K W (tLcM wi g tt te vs) (y_lcMG it yg t e vs) := fun ρ M Φ Ξ h => ew_lcMG hv (hi _ _ _ _ (h.bd fun p M1 h1 => by
  obtain ⟨ds, G⟩ := p
  obtain ⟨hl, h2⟩ := ifsat h1
  have h3 := nox_sat (h2.bd (Ψ := fun ys M2 => Φ (.ref M2.length) (M2 ++ [MO.lst ys])) fun ys M2 h3 => h3)
  refine ⟨fun i acc M' => i ≤ ds.length ∧ acc.length ≤ i ∧ (lcL yg t e vs ρ G (ds.drop i) M').sat (fun ys M2 => Φ (.ref M2.length) (M2 ++ [MO.lst (acc ++ ys)])) (fun _ _ _ => False), ⟨Nat.zero_le _, Nat.le_refl _, h3⟩, fun i acc M' q => ⟨lcL_G q.2.2, ?_⟩, fun i d acc M' hd q => ?_, fun acc M' q => ?_⟩
  · rw [sizeLine_eq]
    have h1 : ds.length < 16777216 := hl
    have := q.1
    have := q.2.1
    omega
  · have hi : i < ds.length := (List.getElem?_eq_some_iff.mp hd).1
    have e0 : ds.drop i = d :: ds.drop (i + 1) := by
      rw [List.drop_eq_getElem_cons hi]
      congr 1
      exact (List.getElem?_eq_some_iff.mp hd).2
    obtain ⟨q1, q2, q3⟩ := q
    rw [e0] at q3
    unfold lcL at q3
    refine gw_getO hg (ifsat q3).2 fun ρ1 M2 q4 => ht _ _ _ _ (q4.bd fun c M3 q5 => ⟨fun ec => he _ _ _ _ ?_, fun ec => ?_⟩)
    · subst ec
      refine R.sat.bd (k := fun y M4 => (lcL yg t e vs ρ G (ds.drop (i + 1)) M4).bd fun ys M5 => .ok (y :: ys) M5) q5 fun y M4 q6 => .inl ⟨hi, by rw [List.length_append]; exact Nat.succ_le_succ q2, ?_⟩
      have := q6.bd (Ψ := fun ys M2 => Φ (.ref M2.length) (M2 ++ [MO.lst (acc ++ [y] ++ ys)])) fun ys M5 q7 => by
        rw [List.append_assoc]
        exact q7
      exact this
    · subst ec
      exact .inl ⟨hi, Nat.le_succ_of_le q2, q5⟩
  · obtain ⟨q1, q2, q3⟩ := q
    rw [List.drop_length] at q3
    unfold lcL at q3
    have := (ifsat q3).2
    rw [← List.append_nil acc]
    exact this))
theorem oz_addLM {M : Mem} {Φ : D → Mem → Prop} {x y : D} {xs ys : List D} (hx : asL M x = some xs) (hy : asL M y = some ys) (h : xs.length + ys.length ≤ sizeLine) (q : Φ (.ref M.length) (M ++ [.lst (xs ++ ys)])) : OpZ K (rAddZ K) x y M Φ := fun w v u Q g r1 r2 k => by
  obtain ⟨a, vs, rfl, ha, ra⟩ := asL_rep g r1 hx
  obtain ⟨b, us, rfl, hb, rb⟩ := asL_rep g r2 hy
  refine .inr (.inr (.inl ⟨a, b, vs, us, rfl, rfl, ha, hb, by rw [← ra.length, ← rb.length]; exact h, fun p hp => ?_⟩))
  have e := ext_addM (o := .lst (vs ++ us)) g hp
  exact k _ (w.addM p _) (.ref M.length) _ e (g.addM hp (own_lst g hp (RepL.append ra rb))) ⟨p, addM_get g, rfl⟩ q
def o_addM : D → D → Mem → R D := fun x y M => match asL M x, asL M y with
  | some xs, some ys => if xs.length + ys.length ≤ 16777216 then .ok (.ref M.length) (M ++ [.lst (xs ++ ys)]) else .bad
  | _, _ => .bad
theorem ko_addM : OkOR K (rAddZ K) o_addM := fun x y M Φ h => by
  unfold o_addM at h
  split at h
  · next xs ys h1 h2 =>
    obtain ⟨h3, h4⟩ := ifsat h
    exact oz_addLM h1 h2 (by rw [sizeLine_eq]; exact h3) h4
  · exact h.elim
theorem addM_at {M : Mem} {x y : D} {xs ys : List D} (hx : asL M x = some xs) (hy : asL M y = some ys) (h : xs.length + ys.length ≤ 16777216) : o_addM x y M = .ok (.ref M.length) (M ++ [.lst (xs ++ ys)]) := by
  unfold o_addM
  rw [hx, hy]
  exact if_pos h
theorem e_lcMG {it : YI} {g : YG} {t : YT} {e : YE} {vs : List Nat} {ρ : Sl} {M : Mem} : y_lcMG it g t e vs ρ M = ((it ρ M).bd fun p M1 => if p.1.length < 16777216 then (lcL g t e vs ρ p.2 p.1 M1).nox.bd fun ys M2 => .ok (.ref M2.length) (M2 ++ [.lst ys]) else .bad) := rfl
end
end Z
namespace Z
open PySem PySem.Spec PyProof.Rows L2
end Z
namespace Z
open PySem PySem.Spec PyProof.Rows L2
end Z
namespace Z
open PySem PySem.Spec PyProof.Rows L2
section
open PySem.Builtin PySem.Builtin.ObjectAttr
variable {pr : Program} {wo : World} {Ar : Around} {Rr : Result → Shared → Prop} {h0 : Heap} {gs : Array GenState} {dr : Drawn} {tn : Nat} {oz : OsState}
end
end Z
namespace Z
open PySem PySem.Spec PyProof.Rows L2
end Z
namespace Z
open PySem PySem.Spec PyProof.Rows L2
open Builtin Builtin.Str
end Z
namespace Z
open PySem PySem.Spec PyProof.Rows L2
section
variable {P : Program} {w : World} {K : PySem.W.Frag} {mg : Str → Option Value} {base : Heap}
structure FnG (P : Program) (w : World) (K : PySem.W.Frag) (mg : Str → Option Value) (base : Heap) (CX : CXT) (k : Nat) (f : Addr) (fd : FuncData) (ps : List Str) (sp : Sp) : Prop where
  len : ∀ vs H Q E, sp vs H Q E → vs.length = ps.length
  run : ∀ (A : Around) (outer : List PySem.Env) (s : Shared) (H : Hp) (args : Args) (us : List Value) (vs : List V) (Q : VK) (E : XK), A.guards = some [] → Room k A → Env0 P w K mg base A outer s H →
    BindsTo s fd args (ps.zip us) → Vals vs us → sp vs H Q E → codeAny (model P w) A (.call (.ref f) args) (CR CX outer P w H s Q E) s
theorem FnG.mono {CX : CXT} {j k : Nat} {f : Addr} {fd : FuncData} {ps : List Str} {sp : Sp} (F : FnG P w K mg base CX j f fd ps sp) (h : j ≤ k) : FnG P w K mg base CX k f fd ps sp :=
  ⟨F.len, fun A o s H ar us vs Q E g r => F.run A o s H ar us vs Q E g (r.mono h)⟩
theorem fnzGd {x qual : Str} {st : Stmt} {f : Addr} {fd : FuncData} {N ps : List Str} {k : Nat} {S : DSp} (F : FnS K x qual st f fd) (sc : FnScope N ps (defScope st)) (len : ∀ ds M Φ Ξ, S ds M Φ Ξ → ds.length = ps.length)
    (body : ∀ (cdv : Value) (A : Around) (outer : List PySem.Env) (s : Shared) (H : Hp) (E : XK), A.guards = some [] → Room k (A.deeper (envOfC qual (defScope st) s.heap.objs.size f cdv)) →
      ∃ t, PSs (cxOf (L2.CX P w) P w K mg base N qual (defScope st) f cdv A outer s H E) (defBody st) t ∧ ∀ ds M Φ Ξ, S ds M Φ Ξ → SW K (WF E) t (startD N ds) M { nx := fun _ M' => Φ .non M', rt := Φ, xn := fun c fo _ M' => Ξ c fo M' }) :
    FnG P w K mg base (L2.CX P w) (k + 1) f fd ps (spOf K S) := by
  obtain ⟨oc, od, dV, kV, doc, pm, an, cdv, ct, osl, efd, lk, hcd, _, _⟩ := F.ex
  have lenV : ∀ vs H Q E, spOf K S vs H Q E → vs.length = ps.length := by
    rintro vs H Q E ⟨w1, M, ds, Φ, Ξ, _, _, r, s1, _⟩
    rw [← r.length]
    exact len ds M Φ Ξ s1
  refine ⟨lenV, ?_⟩
  intro A outer s H args us vs Q E hG hr e0 hb rel hsp
  have hlen := lenV vs H Q E hsp
  have old : ∀ b o, base.get? b = some o → s.heap.get? b = some o := fun b o e => (e0.bs b o e).1
  have inK : K.In s.heap := e0.mod.kin.keeps old
  have nl : s.heap.NoLimit := e0.mod.nolimit.keeps old
  subst efd
  apply codeAny_call_function hr.depth (inK _ _ lk) rfl sc.co sc.gen rfl (PySem.W.codeRec_of inK hcd)
  apply hb
  apply wpAny_newFunctionEnv_cells sc.kind
  · intro y hy
    exact (sc.par y.1 (List.of_mem_zip hy).1).imp (fun q => q) fun q => ⟨q, PySem.W.cellsFrom_some _ _ _ (.inl q)⟩
  intro env henv s1 xc
  cases henv
  refine ⟨nl.keeps xc.toInCall.keep, codeAny_func ?_⟩
  obtain ⟨w1, M, ds, Φ, Ξ, eH, g, r, q1, k1, k2⟩ := hsp
  subst eH
  obtain ⟨t, ht, hS⟩ := body cdv A outer s w1.H E hG (hr.deeper _)
  have I := inv_start (CX := L2.CX P w) (E := E) sc hr.hd e0 hlen rel xc
  have run := ht.run [] s1 _ w1.H { nx := fun _ Hz => Q .non Hz, rt := Q } I (hS ds M Φ Ξ q1 w1 _ _ g (startD_rep r) ⟨fun ρ' M' σ' w' a b c q => k1 .non w' .non M' a b rfl q, k1, fun _ _ _ _ _ _ _ z => z.elim, fun _ _ _ _ _ _ _ z => z.elim, fun cls fo σ' ρ' w' M' d a fd b c y q => k2 cls fo w' M' d a fd b y q⟩)
  refine wpAny_mono run (fun fl sz hs => ?_) fun e sz hs => hs
  have fin : ∀ (σz : L2.St) (Hz : Hp) (v : V) (u : Value), Inv (cxOf (L2.CX P w) P w K mg base N qual (defScope st) f cdv A outer s w1.H E) [] σz Hz sz → RelV v u → Q v Hz → CE outer P w w1.H s Q u sz := fun σz Hz v u J rv q => ⟨v, Hz, J.os, J.bare, J.base, J.hok, rv, q⟩
  cases fl with
  | ret u =>
    obtain ⟨v, σz, Hz, J, rv, q⟩ := hs
    exact fin σz Hz v u J rv q
  | next =>
    obtain ⟨σz, Hz, J, q⟩ := hs
    exact fin σz Hz .non .none J rfl q
  | brk =>
    obtain ⟨_, _, _, q⟩ := hs
    exact q.elim
  | cont =>
    obtain ⟨_, _, _, q⟩ := hs
    exact q.elim
end
section
variable {X : Cx} {CX : CXT} {k : Nat} {f : Addr} {fd : FuncData} {ps : List Str} {sp : Sp} {dvs : List V} {ds : List Value} {E : L2.St → XK} {x : Str} {p pos : Pos} {e : Expr} {es : List Expr} {t : TA}
theorem pe_callG (F : FnG X.prog X.w X.K X.mg X.base CX k f fd ps sp) (hG : X.A.guards = some []) (hr : Room k X.A) (hg : Gl X x) (hm : X.mg x = some (.ref f)) (hk : PySem.W.keepIn X.K (.ref f) = true) (hb : Binds X.K fd ps ds) (hd : Vals dvs ds) (hx : ∀ σ, PassesAt CX X σ (E σ))
    (ha : PA X (e :: es) t) (hdb : (x == ("__debug__" : Str)) = false := by decide) (he : starEach (e :: es) X.env = (false, eval e X.env) :: starEach es X.env := by rfl) (hpl : (backTo pos (starEach es X.env)).any (·.1) = false := by rfl) :
    PE X (.Call (.Name x p) (e :: es) [] pos) (tCallSD sp dvs E t) := by
  constructor
  intro pins s σ H Q I h
  apply wpAny_Call_Name_kw (ld_glob I hg hm ?_ hdb)
  apply PySem.W.callWith_K (h₀ := X.base) I.ok.mod.kin hk ?_ he hpl
  refine thn (ha.run pos pins s σ H _ I h) ?_
  rintro us s1 ⟨vs, H1, I1, r, q⟩
  refine ⟨I1.kIn, ?_⟩
  have r2 : Vals (vs ++ dvs) (us ++ ds) := r.append hd
  have hl : (us ++ ds).length = ps.length := r2.length.symm.trans (F.len _ _ _ _ q)
  apply wpAny_call
  refine codeAny_mono (F.run X.A X.stack s1 H1 ⟨us, []⟩ (us ++ ds) (vs ++ dvs) Q (E σ) hG hr I1.env0 (hb s1 us I1.kIn hl) r2 q) ?_
  intro res sz hq
  match res, hq with
  | .error er, hq => exact hx σ pins H1 s1 er sz I1 hq
  | .ok (.ret u), hq => exact I1.after hq
  | .ok .next, hq => exact hq.elim
  | .ok .brk, hq => exact hq.elim
  | .ok .cont, hq => exact hq.elim
end
def rReprZ (K : PySem.W.Frag) : List V → Hp → VK → Prop := fun vs H Q => ∃ x d, vs = [x] ∧ Dp K H x d ∧ SeqAt.shaped d = true ∧ d.showable = true ∧ d.shown.length ≤ sizeLine ∧ Q (.str d.shown) H
theorem cr_repr {X : Cx} (hG : X.A.guards = some []) (hu : X.A.units + 66 < cLine) : CallR X (.builtin "repr") (rReprZ X.K) := by
  intro pins s σ H xs us Q I r h
  obtain ⟨x, d, rfl, hd, sh, hs, hz, q⟩ := h
  cases r with
  | @cons _ u _ _ r1 r2 =>
    cases r2
    obtain ⟨as, rd⟩ := Dp.reads I d x u hd r1
    have fin : ∀ (h' : Heap) (u tk : Nat), (∀ b o, s.heap.get? b = some o → h'.get? b = some o) → EP X pins σ Q (.str d.shown u) { s with heap := h', toks := tk } := fun h' u tk hk => ⟨.str d.shown, H, I.kept hk, ⟨u, rfl⟩, q⟩
    have hn : d.hasDict = false := PyData.hasDict_of_canLay d (SeqAt.canLay_of_shaped sh)
    have hdp := SeqAt.depth_of_shaped sh
    cases u with
    | ref a => exact repr_of_reads' rd hs (fun e => absurd (hn.symm.trans e) Bool.false_ne_true) hG (by omega) (fun _ _ e => e) fin hz
    | none =>
      cases rd
      exact P.repr_of_none (fin s.heap _ _ fun _ _ e => e)
    | bool b =>
      cases rd
      exact P.repr_of_bool (fin s.heap _ _ fun _ _ e => e)
    | int i t =>
      cases rd
      exact P.repr_of_int (of_decide_eq_true hs) (fin s.heap _ _ fun _ _ e => e)
    | str z t =>
      cases rd
      exact P.repr_of_str (fin s.heap _ _ fun _ _ e => e) hz
    | _ => cases rd
section
variable {K : PySem.W.Frag} {M : Mem} {Φ : D → Mem → Prop}
theorem cz_repr {x : D} {a : PyData} (hx : pd (xpN M 4 x) = some a) (sh : SeqAt.shaped a = true) (hs : a.showable = true) (hz : a.shown.length ≤ sizeLine) (q : Φ (.str a.shown) M) : CbZ K (rReprZ K) [x] M Φ := fun w vs Q g r k => by
  obtain ⟨v, rfl, rv⟩ := repL1 r
  exact ⟨v, a, rfl, pdN_rep 4 g rv hx, sh, hs, hz, k _ w (.str a.shown) M (Ext.refl w) g rfl q⟩
def shD (M : Mem) (x : D) : PyData := pyd (xpN M 4 x)
def c_repr : List D → Mem → Option (D × Mem) := fun xs M => match xs with
  | [x] => if dat 60 (xpN M 4 x) = true ∧ (shD M x).showable = true ∧ (shD M x).shown.length ≤ 16777216 then some (.str (shD M x).shown, M) else none
  | _ => none
theorem kc_repr : OkC K (rReprZ K) c_repr := fun xs M d M' Φ e q => by
  unfold c_repr at e
  split at e
  · split at e
    · next h =>
      cases e
      exact cz_repr (dat_pd h.1).1 ((dat_pd h.1).shaped (by decide)) h.2.1 (by rw [sizeLine_eq]; exact h.2.2) q
    · cases e
  · cases e
end
section
variable {P : Program} {w : World} {K : PySem.W.Frag} {mg mb : Str → Option Value} {CX : CXT} {k : Nat} {fa a : Addr} {fd : FuncData} {x : Str} {sp : Sp} {sq : Shared} {vs : List Value} {ns : List Int}
theorem kept_all {h h' : Heap} {H H' : Hp} (only : Only H) (un : Un (frs []) [] H H' h h') (ok : HOk P w H h) (ok' : HOk P w H' h') : ∀ b o, h.get? b = some o → h'.get? b = some o := by
  intro b o e
  rcases only b with n | ⟨ob, xs, z⟩
  · exact un.keep b o e n (fun m => by cases m) (fun m => by cases m)
  · have l1 := (ok b _ z).1
    have l2 := (ok' b _ (un.frzs b ob _ z)).1
    rw [e] at l1
    cases l1
    exact l2
theorem call_core {H : Hp} (inK : K.In sq.heap) (glo : sq.heap.Ns mainGlobals mg) (bul : sq.heap.Ns builtinsNs mb) (boot : ∀ y : Str, y ≠ "__name__" → mb y = bootBuiltins y) (lim : sq.heap.NoLimit) (ge : sq.gens = #[])
    (obj : sq.heap.get? a = some { cls := .type "list", data := .seq vs.toArray }) (rm : Room k callerA)
    (F : ∀ base : Heap, K.In base → base.Ns mainGlobals mg → FnG P w K mg base CX k fa fd [x] sp) (bind : ∀ (s : Shared) (u : Value), BindsTo s fd ⟨[u], []⟩ [(x, u)])
    (only : Only H) (sps : sp [.ref a] H (fun v _ => v = .bl true) fun _ _ _ => False) (ok : HOk P w H sq.heap) (one : ∀ b, H b ≠ none → b = a) (noK : H a ≠ none → K.lookup a = none)
    (none' : ∀ e s', CX [] H sq (fun _ _ _ => False) e s' → False) :
    codeAny (model P w) callerA (.call (.ref fa) ⟨[.ref a], []⟩) (fun r s' => r = .ok (.ret (.bool true)) ∧ OldK sq.heap s'.heap ∧ s'.os = sq.os ∧ AllBare s'.gens) sq := by
  have free : ∀ {b : Addr} {o : Obj} {es : Array DictEntry} {ep : Nat}, sq.heap.get? b = some o → o.data = .dict es ep → H b = none := by
    intro b o es ep e d
    by_cases n : H b = none
    · exact n
    · obtain rfl := one b n
      rw [obj] at e
      cases e
      cases d
  have seen : ∀ {b : Addr} {m : Str → Option Value}, sq.heap.Ns b m → (hidT sq.heap H).Ns b m := by
    rintro b m ⟨o, es, ep, e, d, r⟩
    exact ⟨o, es, ep, hidT_get e (free e d), d, r⟩
  have inB : K.In (hidT sq.heap H) := by
    intro b o e
    refine hidT_get (inK b o e) ?_
    by_cases n : H b = none
    · exact n
    · obtain rfl := one b n
      rw [noK n] at e
      cases e
  obtain ⟨mc, c1, c2⟩ := lim
  have env : Env0 P w K mg (hidT sq.heap H) callerA [] sq H := { frames := rfl, mod := ⟨inB, seen glo, ⟨mb, seen bul, boot⟩, ⟨mc, seen c1, c2⟩⟩, bs := fun b o e => of_hidT e, bsz := Nat.le_of_eq (hidT_size _ _), funs := trivial, frf := (fun b m => by cases m), hok := ok, bare := .of_eq ge }
  have go := (F _ inB (seen glo)).run callerA [] sq H ⟨[.ref a], []⟩ [.ref a] [.ref a] _ _ rfl rm env (bind sq (.ref a)) (.cons rfl .nil) sps
  refine codeAny_mono go ?_
  intro res s' out
  match res, out with
  | .error er, out => exact (none' er s' out).elim
  | .ok .next, out => exact out.elim
  | .ok .brk, out => exact out.elim
  | .ok .cont, out => exact out.elim
  | .ok (.ret u), ⟨v, H', os, bare, un, ok', rel, q⟩ =>
    have q : v = .bl true := q
    subst q
    obtain rfl : u = Value.bool true := rel
    exact ⟨rfl, OldK.of_keep (kept_all only un ok ok'), os, bare⟩
theorem law_callG (inK : K.In sq.heap) (glo : sq.heap.Ns mainGlobals mg) (bul : sq.heap.Ns builtinsNs mb) (boot : ∀ y : Str, y ≠ "__name__" → mb y = bootBuiltins y) (lim : sq.heap.NoLimit) (ge : sq.gens = #[])
    (obj : sq.heap.get? a = some { cls := .type "list", data := .seq vs.toArray }) (nums : IntsAre vs ns) (few : ns.length ≤ sizeLine) (rm : Room k callerA)
    (F : ∀ base : Heap, K.In base → base.Ns mainGlobals mg → FnG P w K mg base CX k fa fd [x] sp) (bind : ∀ (s : Shared) (u : Value), BindsTo s fd ⟨[u], []⟩ [(x, u)])
    (sps : ∀ H : Hp, Only H → SqL K H a (ns.map V.int) → sp [.ref a] H (fun v _ => v = .bl true) fun _ _ _ => False)
    (none' : ∀ H e s', CX [] H sq (fun _ _ _ => False) e s' → False) :
    codeAny (model P w) callerA (.call (.ref fa) ⟨[.ref a], []⟩) (fun r s' => r = .ok (.ret (.bool true)) ∧ OldK sq.heap s'.heap ∧ s'.os = sq.os ∧ AllBare s'.gens) sq := by
  have rel := vals_ints nums
  have many := nums.length
  by_cases own : K.lookup a = none
  · -- the script is tracked, frozen
    let H : Hp := fun b => if b = a then some (.frz { cls := .type "list", data := .seq vs.toArray } (.lst (ns.map V.int))) else none
    have ha : H a = some (.frz { cls := .type "list", data := .seq vs.toArray } (.lst (ns.map V.int))) := if_pos rfl
    have hn : ∀ b, b ≠ a → H b = none := fun b h => if_neg h
    have only : Only H := by
      intro b
      by_cases e : b = a
      · subst e
        exact .inr ⟨_, _, ha⟩
      · exact .inl (hn b e)
    refine call_core (H := H) inK glo bul boot lim ge obj rm F bind only (sps H only (.inl (.inr ⟨_, ha⟩))) ?_ ?_ (fun _ => own) (none' H)
    · intro b u z
      by_cases e : b = a
      · subst e
        rw [ha] at z
        cases z
        exact ⟨obj, by rw [List.length_map]; exact few, vs, _, rel, obj⟩
      · rw [hn b e] at z
        cases z
    · intro b h
      by_cases e : b = a
      · exact e
      · exact absurd (hn b e) h
  · -- it is an object of the module
    obtain ⟨o, ho⟩ := Option.ne_none_iff_exists'.mp own
    have e := inK a o ho
    rw [obj] at e
    cases e
    have only : Only (fun _ => none) := fun _ => .inl rfl
    refine call_core (H := fun _ => none) inK glo bul boot lim ge obj rm F bind only (sps _ only (.inr ⟨_, vs.toArray, _, ho, rfl, rfl, rfl, ?_, ?_⟩)) (fun b u z => by cases z) (fun b h => absurd rfl h) (fun h => absurd rfl h) (none' _)
    · rw [List.size_toArray, many]
      exact few
    · simpa using rel
end
theorem walk_ofG {lw : PySem.W.OpenLaw} {top lev : Nat} {vw : Program} {ls : List Str} {XQ : (Str → Option Value) → Heap → Prop} {YQ : World → Heap → Prop} {df : DefRec} {CW : World → CXT} {arg : Str} (h1 : lw.most = some top) (h2 : top ≤ sizeLine) (h3 : df.params.defaults = []) (rm : Room lev callerA)
    (F : ∀ (u : World) (gl : Str → Option Value) (fA : Addr) (hp : Heap), YQ u hp → hp.Ns mainGlobals gl → gl df.name = some (.ref fA) → ∃ (K : PySem.W.Frag) (fd : FuncData) (sp : Sp), K.In hp ∧ (∀ (s : Shared) (z : Value), BindsTo s fd ⟨[z], []⟩ [(arg, z)]) ∧
      (∀ (H : Hp) (a : Addr) (is : List Int), is.length ≤ top → Only H → SqL K H a (is.map V.int) → sp [.ref a] H (fun v _ => v = .bl true) fun _ _ _ => False) ∧ ∀ b : Heap, K.In b → b.Ns mainGlobals gl → FnG lw.prog u K gl b (CW u) lev fA fd [arg] sp)
    (no : ∀ (u : World) (H : Hp) (s : Shared) (e : Value) (s' : Shared), CW u [] H s (fun _ _ _ => False) e s' → False) : PySem.W.WalkO vw ls XQ YQ lw.row.toRowW df [] (fun f vs => PySem.call f vs) := by
  refine Att.attach_call h1 h3 fun u p0 p1 gl mb fA o pm cd doc a vs is G Y ho hd hcd hgl hobj hints hlen hg => ?_
  obtain ⟨K, fd, sp, KX, hb, hsp, hF⟩ := F u gl fA _ Y G.T.g hgl
  exact law_callG KX G.T.g G.T.b G.T.builtins G.T.nolimit hg hobj hints (Nat.le_trans hlen h2) rm hF hb (fun H hO hS => hsp H a is hlen hO hS) fun H e s' => no u H p1 e s'
section
variable {P : Program} {w : World} {K : PySem.W.Frag} {mg : Str → Option Value} {base : Heap}
theorem FnG.spmono {k : Nat} {f : Addr} {fd : FuncData} {ps : List Str} {S T : DSp} (F : FnG P w K mg base (L2.CX P w) k f fd ps (spOf K S)) (h : ∀ ds M Φ Ξ, T ds M Φ Ξ → S ds M Φ Ξ) : FnG P w K mg base (L2.CX P w) k f fd ps (spOf K T) := by
  have up : ∀ {vs : List V} {H : Hp} {Q : VK} {E : XK}, spOf K T vs H Q E → spOf K S vs H Q E := fun ⟨w1, M, ds, Φ, Ξ, a, b, c, d, e⟩ => ⟨w1, M, ds, Φ, Ξ, a, b, c, h _ _ _ _ d, e⟩
  exact ⟨fun vs H Q E q => F.len vs H Q E (up q), fun A o s H ar us vs Q E g r e b rl q => F.run A o s H ar us vs Q E g r e b rl (up q)⟩
structure CalleeG (P : Program) (w : World) (K : PySem.W.Frag) (mg : Str → Option Value) (base : Heap) (x : Str) (k : Nat) (ps : List Str) (S : DSp) (f : Addr) (fd : FuncData) : Prop where
  ok : FnG P w K mg base (L2.CX P w) k f fd ps (spOf K S)
  mg : mg x = some (.ref f)
  kp : PySem.W.keepIn K (.ref f) = true
  bi : Binds K fd ps []
end
theorem room66 {k : Nat} {A : Around} (r : Room k A) : A.units + 66 < cLine := by
  have := r.un
  omega
end Z
namespace Z
open PySem PySem.Spec PyProof.Rows L2

mutual
def sfD (n : Nat) : D → D
  | .ref r => .ref (n + r)
  | .tup ds => .tup (sfL n ds)
  | .kt ds => .kt (sfL n ds)
  | .lst ds => .lst (sfL n ds)
  | .fz ds => .fz (sfL n ds)
  | .dk kvs => .dk (sfK n kvs)
  | .non => .non
  | .bl b => .bl b
  | .int i => .int i
  | .str s => .str s
  | .glo a => .glo a
  | .ty t => .ty t
def sfL (n : Nat) : List D → List D
  | [] => []
  | d :: ds => sfD n d :: sfL n ds
def sfK (n : Nat) : List (Key × D) → List (Key × D)
  | [] => []
  | (k, d) :: ds => (k, sfD n d) :: sfK n ds
end
section
variable {n : Nat}
def sfF {α : Type} (n : Nat) (fs : List (α × D)) : List (α × D) := fs.map fun p => (p.1, sfD n p.2)
def sfO (n : Nat) : MO → MO
  | .lst ds => .lst (sfL n ds)
  | .dT k => .dT (sfF n k)
  | .dK k => .dK (sfF n k)
  | .ins C fs => .ins C (sfF n fs)
  | .fT o k => .fT o (sfF n k)
  | .fK o k => .fK o (sfF n k)
  | .xd a fs => .xd a (sfF n fs)
  | .gone => .gone
def sfM (A M : Mem) : Mem := A ++ M.map (sfO A.length)
def sfS (n : Nat) (ρ : Sl) : Sl := ρ.map (Option.map (sfD n))
end
section
variable {A M N : Mem} {n : Nat}
def SfR {α : Type} (A : Mem) (s : α → α) (r r' : R α) : Prop := ∀ a N, r = .ok a N → r' = .ok (s a) (sfM A N)
def SfRS (A : Mem) (r r' : RS) : Prop := match r with
  | .nx ρ M => r' = .nx (sfS A.length ρ) (sfM A M)
  | .rt d M => r' = .rt (sfD A.length d) (sfM A M)
  | .bk ρ M => r' = .bk (sfS A.length ρ) (sfM A M)
  | .ct ρ M => r' = .ct (sfS A.length ρ) (sfM A M)
  | .xc _ _ _ _ => True
  | .bad => True
theorem SfR.ok {α : Type} {s : α → α} {a : α} {N : Mem} : SfR A s (.ok a N) (.ok (s a) (sfM A N)) := fun _ _ e => by cases e; rfl
theorem SfR.bad {α : Type} {s : α → α} {r : R α} : SfR A s .bad r := fun _ _ e => by cases e
theorem SfR.bd {α β : Type} {s : α → α} {t : β → β} {r r' : R α} {k k' : α → Mem → R β} (h : SfR A s r r') (hk : ∀ a N, SfR A t (k a N) (k' (s a) (sfM A N))) : SfR A t (r.bd k) (r'.bd k') := by
  cases r with
  | ok a N =>
    rw [h a N rfl]
    exact hk a N
  | xc c fo N => exact fun _ _ e => by cases e
  | bad => exact fun _ _ e => by cases e
theorem SfR.bs {α : Type} {s : α → α} {r r' : R α} {ρ ρ' : Sl} {k k' : α → Mem → RS} (h : SfR A s r r') (hk : ∀ a N, SfRS A (k a N) (k' (s a) (sfM A N))) : SfRS A (r.bs ρ k) (r'.bs ρ' k') := by
  cases r with
  | ok a N =>
    rw [h a N rfl]
    exact hk a N
  | xc c fo N => trivial
  | bad => trivial
theorem SfR.nox {α : Type} {s : α → α} {r r' : R α} (h : SfR A s r r') : SfR A s r.nox r'.nox := by
  cases r with
  | ok a N =>
    rw [h a N rfl]
    exact SfR.ok
  | xc c fo N => exact fun _ _ e => by cases e
  | bad => exact fun _ _ e => by cases e
theorem SfRS.th {r r' : RS} {k k' : Sl → Mem → RS} (h : SfRS A r r') (hk : ∀ ρ M, SfRS A (k ρ M) (k' (sfS A.length ρ) (sfM A M))) : SfRS A (r.th k) (r'.th k') := by
  cases r with
  | nx ρ M =>
    rw [show r' = .nx (sfS A.length ρ) (sfM A M) from h]
    exact hk ρ M
  | rt d M => rw [show r' = .rt (sfD A.length d) (sfM A M) from h]; exact rfl
  | bk ρ M => rw [show r' = .bk (sfS A.length ρ) (sfM A M) from h]; exact rfl
  | ct ρ M => rw [show r' = .ct (sfS A.length ρ) (sfM A M) from h]; exact rfl
  | xc c fo ρ M => trivial
  | bad => trivial
theorem SfR.opt {o o' : Option D} {M : Mem} (h : ∀ d, o = some d → o' = some (sfD A.length d)) : SfR A (sfD A.length) (opt o M) (opt o' (sfM A M)) := by
  cases o with
  | none => exact SfR.bad
  | some d =>
    rw [h d rfl]
    exact SfR.ok
theorem SfR.optM {o o' : Option (D × Mem)} (h : ∀ d M, o = some (d, M) → o' = some (sfD A.length d, sfM A M)) : SfR A (sfD A.length) (optM o) (optM o') := by
  cases o with
  | none => exact SfR.bad
  | some p =>
    obtain ⟨d, M⟩ := p
    rw [h d M rfl]
    exact SfR.ok
theorem SfR.if {α : Type} {s : α → α} {c c' : Prop} {ic : Decidable c} {ic' : Decidable c'} {r r' : R α} (hc : c → c') (h : c → SfR A s r r') : SfR A s (if c then r else .bad) (if c' then r' else .bad) := by
  by_cases e : c
  · rw [if_pos e, if_pos (hc e)]
    exact h e
  · rw [if_neg e]
    exact SfR.bad
variable {a b c : YE} {t u : YT} {xs ys : YA} {g : YG} {gs : YGs} {s s' : YS} {it : YI} {lo hi : YO} {f : List D → Mem → R D}
end
end Z
namespace Z
open PySem PySem.Spec PyProof.Rows L2

def btN (M : Mem) (d : D) : Option String := match d with
  | .non => some "NoneType"
  | .int _ => some "int"
  | .str _ => some "str"
  | .bl _ => some "bool"
  | .tup _ => some "tuple"
  | d => if (asL M d).isSome = true then some "list" else if (dkD M d).isSome = true then some "dict" else none
theorem btN_ok {M : Mem} {d : D} {T : String} (h : btN M d = some T) : BtD M d T ∧ T ∈ bt7 := by
  have gen : ∀ d : D, (if (asL M d).isSome = true then some "list" else if (dkD M d).isSome = true then some "dict" else none) = some T → BtD M d T ∧ T ∈ bt7 := fun d h => by
    split at h
    · next q =>
      cases h
      exact ⟨.inr (.inr (.inr (.inl ⟨_, Option.eq_some_of_isSome q, rfl⟩))), by decide⟩
    · split at h
      · next q =>
        cases h
        exact ⟨.inr (.inr (.inr (.inr (.inr (.inl ⟨_, Option.eq_some_of_isSome q, rfl⟩))))), by decide⟩
      · cases h
  cases d with
  | non => cases h; exact ⟨.inl ⟨rfl, rfl⟩, by decide⟩
  | int i => cases h; exact ⟨.inr (.inl ⟨i, rfl, rfl⟩), by decide⟩
  | str i => cases h; exact ⟨.inr (.inr (.inl ⟨i, rfl, rfl⟩)), by decide⟩
  | tup i => cases h; exact ⟨.inr (.inr (.inr (.inr (.inl ⟨i, rfl, rfl⟩)))), by decide⟩
  | bl i => cases h; exact ⟨.inr (.inr (.inr (.inr (.inr (.inr ⟨i, rfl, rfl⟩))))), by decide⟩
  | _ => exact gen _ h
theorem eqBB_ok {K : PySem.W.Frag} {C : Str} (h : eqBB K C = true) {t : String} (ht : t ∈ bt7) : PySem.W.notFirst K (He.ga K C) (.type t) = true ∧ PySem.W.subIn K (.ref (He.ga K C)) (.type t) = some false := by
  obtain ⟨a, b⟩ := He.ba (List.all_eq_true.mp h t ht)
  exact ⟨a, of_decide_eq_true b⟩
def blR : D → Mem → R D := fun d M1 => match d with
  | .bl b => .ok (.bl b) M1
  | _ => .bad
def o_eqX (C : Addr) (Bs : List Addr) (f : List D → Mem → R D) : D → D → Mem → R D := fun x y M => match insC M x C with
  | some _ => if ((btN M y).isSome || Bs.any fun B => (insC M y B).isSome) = true then (f [x, y] M).bd blR else .bad
  | none => .bad
section
variable {K : PySem.W.Frag} {W : WX} {C B : Addr} {f fB : List D → Mem → R D} {te ta : TE} {a : YE} {ts : TS} {tA : TA} {xs : YA} {Ef : XK}
theorem blR_sat {r : R D} {Φ : D → Mem → Prop} (h : (r.bd blR).sat Φ (fun _ _ _ => False)) : r.sat (fun d M' => ∃ t : Bool, d = .bl t ∧ Φ (.bl t) M') NoX := by
  refine R.sat.bd (k := blR) h fun d M1 h1 => ?_
  cases d with
  | bl b => exact ⟨b, rfl, h1⟩
  | _ => exact h1.elim
theorem ko_eqX {c : Str} {Bs : List Addr} (hn : ∀ B ∈ Bs, PySem.W.notFirst K (He.ga K c) (.ref B) = true) (hb : eqBB K c = true) : OkOR K (fun x y H Q => rEqO K (He.ga K c) (spOf K (spR f)) E0 x y H Q ∨ rEqOB K (He.ga K c) (spOf K (spR f)) E0 x y H Q) (o_eqX (He.ga K c) Bs f) := fun x y M Φ h => by
  unfold o_eqX at h
  split at h
  · next fs e1 =>
    obtain ⟨n, rfl, hm⟩ := insC_ok e1
    obtain ⟨q, h2⟩ := ifsat h
    by_cases q1 : (btN M y).isSome = true
    · obtain ⟨T, hT⟩ := Option.isSome_iff_exists.mp q1
      obtain ⟨b1, b2⟩ := btN_ok hT
      exact oz_or2 (oz_eqOB hm b1 (eqBB_ok hb b2).1 (blR_sat h2))
    · rw [Bool.or_eq_true] at q
      rcases q with q | q
      · exact absurd q q1
      · obtain ⟨B, hB, q⟩ := List.any_eq_true.mp q
        obtain ⟨gs, e2⟩ := Option.isSome_iff_exists.mp q
        obtain ⟨m, rfl, hm2⟩ := insC_ok e2
        exact oz_or1 (oz_eqO hm hm2 (hn B hB) (blR_sat h2))
  · exact h.elim
end
end Z
namespace Z
open PySem PySem.Spec PyProof.Rows L2
open PySem (wpAny_bind wpAny_pure)

section
open PySem.W
variable {prog : Program} {w : World} {A : Around} {E : Value → Shared → Prop} {s : Shared} {K : PySem.W.Frag} {x C f L : Addr} {ox : Obj} {od : Option Obj} {b tb : Value} {h₀ : Heap} {m : Str → Option Value}
theorem ifBound_B {M : Model} {args : List Value} {Q : Option Value → Shared → Prop} {name : Str} {id B : String} (X : K.In s.heap) (I : InstAt s.heap x ox C od) (hs : findIn K (.ref C) name = some (some (.builtin id))) (S : Slot B name id)
    (h : wpAny M A (call (.builtin id) (.ref x :: args)) (fun v => Q (some v)) E s) : wpAny M A (callSpecialIfBound? (.ref x) name args) Q E s := by
  simp only [callSpecialIfBound?, bindSpecialIfBound?]
  refine wpAny_holding (wpAny_bind (wpAny_bind (wpAny_bind (I.type.here ((looks_findIn X hs).here ?_)))))
  simp only [S.bind]
  refine wpAny_bind (wpAny_askSetting (wpAny_ite ?_))
  have fin : wpAny M A (call (.builtin id) ([.ref x] ++ args) >>= fun v => pure (some v)) Q E s := wpAny_bind (wpAny_mono h (fun v s' h' => wpAny_pure h') fun _ _ h' => h')
  split
  · exact wpAny_bind (wpAny_pure (wpAny_pure fin))
  · exact wpAny_tryCatch (wpAny_bind (wpAny_pure (wpAny_pure fin)))
theorem yes_inst {T : String} {Q : Bool → Shared → Prop} (X : K.In s.heap) (I : PySem.W.InstAt s.heap x ox C od) (e : PySem.W.subIn K (.ref C) (.type T) = some true) (h : Q true s) : wpAny (model prog w) A (isInstance (.ref x) (.type T)) Q E s := by
  unfold isInstance
  apply wpAny_bind
  apply I.type.here
  exact (PySem.W.looks_subIn X e).here h
theorem check_ne {Q : Unit → Shared → Prop} (X : K.In s.heap) (I : PySem.W.InstAt s.heap x ox C od) (e : PySem.W.subIn K (.ref C) (.type "object") = some true) (hq : Q () s) : wpAny (model prog w) A (checkBuiltinCall "object.__ne__" ⟨[.ref x, b], []⟩) Q E s := by
  simp only [checkBuiltinCall, F.cmpKind_ne, F.cmpSplit_ne]
  refine wpAny_bind (yes_inst X I e ?_)
  have ha := F.cmpArgs_ne (.ref x) b
  cases hsig : Manifest.signature? "object.__ne__" with
  | none => exact wpAny_pure hq
  | some sig =>
    simp only [argsOk, hsig] at ha
    have h2 : Bind.checkArgs "object.__ne__" sig ⟨[.ref x, b], []⟩ = pure () := ha
    show wpAny _ A (Bind.checkArgs "object.__ne__" sig ⟨[.ref x, b], []⟩) Q E _
    rw [h2]
    exact wpAny_pure hq
theorem objNe_K (hu : A.units < cLine) (X : K.In s.heap) (I : InstAt s.heap x ox C od) (hs : findIn K (.ref C) "__eq__" = some (some (.ref f))) (hf : isFn K (.ref f) = true) {Q : Fin → Shared → Prop}
    (hcall : wpAny (model prog w) A (call (.ref f) [.ref x, b]) (fun v s' => ∃ t, v = .bool t ∧ Q (.done (.ret (.bool (!t)))) s') E s) :
    wpAny (model prog w) A (Builtin.«object.__ne__» ⟨[.ref x, b], []⟩) Q E s := by
  unfold Builtin.«object.__ne__»
  repeat (first
    | with_reducible refine wpAny_cRoomFor hu ?_
    | (refine wpAny_bind (m := callSpecialIfBound? (.ref x) (Str.ofString "__eq__") [b])
        (ifBound_K X I hs hf (wpAny_mono hcall (fun r s' hr => by
          obtain ⟨t, rfl, hq⟩ := hr
          repeat (first | exact hq | exact wpAny_pure hq | exact wpAny_truthy_bool hq | (refine wpAny_bind (m := truthy (.bool _)) (wpAny_truthy_bool ?_)) | wp_step)) fun _ _ e => e)))
    | wp_step)
theorem ne_K {Q : Value → Shared → Prop} (hu : A.units + 1 < cLine) (F : Fr h₀ L s.heap m) (X₀ : K.In h₀) (I : InstAt s.heap x ox C od) (hb : Looks (model prog w) s.heap (typeOf b) tb) (hn : notFirst K C tb = true)
    (hN : findIn K (.ref C) "__ne__" = some (some (.builtin "object.__ne__"))) (hO : subIn K (.ref C) (.type "object") = some true) (hs : findIn K (.ref C) "__eq__" = some (some (.ref f))) (hf : isFn K (.ref f) = true)
    (h : wpAny (model prog w) A.in1 (call (.ref f) [.ref x, b]) (fun v s' => ∃ t, v = .bool t ∧ Q (.bool (!t)) s') E s) : wpAny (model prog w) A (richCompare .NotEq (.ref x) b) Q E s := by
  have X := X₀.keeps F.keep
  have one : wpAny (model prog w) A (tryCompare (.ref x) (cmpInfo .NotEq).2.1 b) (fun r s' => ∃ v, r = some v ∧ Q v s') E s := by
    unfold tryCompare
    refine wpAny_bind (ifBound_B X I hN PySem.F.cmp_object.ne (wpAny_call (codeAny_call_builtin PySem.F.cmp_object.ne.plain PySem.F.cmpEntry_ne (check_ne X I hO (objNe_K (A := A.in1) hu X I hs hf (wpAny_mono h (fun v s' hv => ?_) fun _ _ e => e))))))
    obtain ⟨t, rfl, hq⟩ := hv
    first | exact ⟨t, rfl, wpAny_pure ⟨_, rfl, hq⟩⟩ | exact ⟨t, rfl, wpAny_pure (wpAny_pure ⟨_, rfl, hq⟩)⟩ | exact ⟨t, rfl, ⟨_, rfl, hq⟩⟩
  unfold richCompare
  simp only [oneThing_ref]
  refine wpAny_holding (wpAny_bind (wpAny_cRoomFor (Nat.lt_of_succ_lt hu) ?_))
  refine wpAny_bind (I.type.here (wpAny_bind (hb.here ?_)))
  split
  · rename_i q
    have e : subIn K tb (.ref C) = some false := by
      rcases Bool.or_eq_true_iff.mp hn with e | e
      · rw [beq_iff_eq.mp e] at q; simp at q
      · exact beq_iff_eq.mp e
    refine wpAny_bind ((looks_subIn X e).here ?_)
    simp only [Bool.false_eq_true, if_false]
    refine wpAny_bind (wpAny_mono one (fun r s' z => ?_) fun _ _ e => e)
    obtain ⟨v, rfl, hq⟩ := z
    exact wpAny_pure hq
  · refine wpAny_bind (wpAny_pure ?_)
    simp only [Bool.false_eq_true, if_false]
    refine wpAny_bind (wpAny_mono one (fun r s' z => ?_) fun _ _ e => e)
    obtain ⟨v, rfl, hq⟩ := z
    exact wpAny_pure hq
end
theorem neBB_ok {K : PySem.W.Frag} {C : Addr} (h : neBB K C = true) : PySem.W.findIn K (.ref C) "__ne__" = some (some (.builtin "object.__ne__")) ∧ PySem.W.subIn K (.ref C) (.type "object") = some true := by
  obtain ⟨a, b⟩ := He.ba h
  refine ⟨?_, of_decide_eq_true b⟩
  split at a
  · next id e => rw [e, beq_iff_eq.mp a]
  · cases a
def negR (r : R2) : R2 := fun x y H Q => r x y H (fun v H2 => ∃ t : Bool, v = .bl t ∧ Q (.bl (!t)) H2)
theorem op_neO {X : Cx} {C f : Addr} {k : Nat} {sp : Sp} {E : XK} (hN : neBB X.K C = true) (hs : PySem.W.findIn X.K (.ref C) "__eq__" = some (some (.ref f))) (hf : PySem.W.isFn X.K (.ref f) = true) (F : FnR X.prog X.w X.K X.mg X.base (L2.CX X.prog X.w) k f sp) (hr : Room (k + 1) X.A) (hu : X.A.units + 1 < cLine) (hx : Passes (L2.CX X.prog X.w) X E) :
    OpR X (compareOp .NotEq) (negR (rEqO X.K C sp E)) := by
  intro pins s σ H x y v u Q I rx ry h
  obtain ⟨a, dx, fs, b, C', dy, gs, rfl, rfl, ha, hb, hn, q⟩ := h
  cases (show v = Value.ref a from rx)
  cases (show u = Value.ref b from ry)
  obtain ⟨od, J⟩ := ins_at I ha
  obtain ⟨od', J'⟩ := ins_at I hb
  obtain ⟨m, hF⟩ := I.fr
  obtain ⟨n1, n2⟩ := neBB_ok hN
  show wpAny _ _ (richCompare .NotEq _ _) _ _ _
  refine ne_K (tb := .ref C') hu hF I.ok.mod.kin J J'.type hn n1 n2 hs hf ?_
  refine wpAny_mono (call_at F (A := X.A.in1) hr.in1 (frames_in1 I) hx I (us := [.ref a, .ref b]) (ws := [.ref a, .ref b]) (.cons rfl (.cons rfl .nil)) q) (fun z s' hz => ?_) fun _ _ y => y
  obtain ⟨z', H', I', rz, t, ez, t', et, qz⟩ := hz
  subst ez
  cases et
  cases (show z = Value.bool t from rz)
  exact ⟨t, rfl, .bl (!t), H', I', rfl, qz⟩
def notR : D → Mem → R D := fun d M1 => match d with
  | .bl b => .ok (.bl (!b)) M1
  | _ => .bad
def o_neO (C B : Addr) (f : List D → Mem → R D) : D → D → Mem → R D := fun x y M => match insC M x C, insC M y B with
  | some _, some _ => (f [x, y] M).bd notR
  | _, _ => .bad
section
variable {K : PySem.W.Frag} {C B : Addr} {f : List D → Mem → R D}
theorem oz_neg {r : R2} {x y : D} {M : Mem} {Φ : D → Mem → Prop} (h : OpZ K r x y M (fun d M' => ∃ t : Bool, d = .bl t ∧ Φ (.bl (!t)) M')) : OpZ K (negR r) x y M Φ := fun w v u Q g r1 r2 k => h w v u _ g r1 r2 fun v' w' d M' e' g' r' q => by
  obtain ⟨t, rfl, q⟩ := q
  cases (show v' = V.bl t from r')
  exact ⟨t, rfl, k (.bl (!t)) w' (.bl (!t)) M' e' g' rfl q⟩
theorem ko_neO (hn : PySem.W.notFirst K C (.ref B) = true) : OkOR K (negR (rEqO K C (spOf K (spR f)) E0)) (o_neO C B f) := fun x y M Φ h => by
  unfold o_neO at h
  split at h
  · next e1 e2 =>
    obtain ⟨n, rfl, hm⟩ := insC_ok e1
    obtain ⟨m, rfl, hm2⟩ := insC_ok e2
    refine oz_neg (oz_eqO hm hm2 hn (R.sat.bd h fun d M1 h1 => ?_))
    cases d with
    | bl b => exact ⟨b, rfl, b, rfl, h1⟩
    | _ => exact h1.elim
  · exact h.elim
end
end Z
namespace RT
open PySem PySem.Spec PyProof.Rows L2
open PySem (wpAny_bind wpAny_pure)
section
variable {prog : Program} {w : World} {A : Around} {E : Value → Shared → Prop} {s : Shared}
theorem extend_rev {it l : Addr} {items : Array Value} {R : Result → Shared → Prop} (hh : A.handled = none) (S : Addr) (res : Value) (c₀ : Nat) (hS : s.heap.get? S = some { cls := .type "list", data := .seq #[] c₀ })
    (hit : s.heap.IsRevIter it l ((items.size : Int) - 1)) (hl : s.heap.IsList l items) (hne : l ≠ it) (hSi : S ≠ it) (hSl : S ≠ l) (hn : items.size ≤ sizeLine)
    (hR : ∀ h' tk acc' c', (∀ b o, b ≠ S → b ≠ it → s.heap.get? b = some o → h'.get? b = some o) → h'.get? S = some { cls := .type "list", dict := none, data := .seq acc' c', slots := #[] } →
      ItemsOf (fun i v => items[items.size - 1 - i]? = some v) acc' items.size → R (.ok (.ret res)) { s with heap := h', toks := tk }) :
    wpAny (model prog w) A.in1 (Builtin.List.listExtendWith (.ref S) (.ref it) res)
      (fun fin s' => match fin with | .done f => R (.ok f) s' | .again c' => c'.quiet = true ∧ codeAny (model prog w) A c' R s') (fun e s' => R (.error e) s') s := by
  have W := (Walks.listRev (prog := prog) (w := w) (A := A.in1) hh it l hne items).toS
  have hSf : S ∉ [it, l] := by simp only [List.mem_cons, List.not_mem_nil, or_false, not_or]; exact ⟨hSi, hSl⟩
  have hT : s.TypeIs (.ref it) "list_reverseiterator" := hit.typeIs
  have h1 : Builtin.List.listSameRef (.ref S) (.ref it) = false := by simp [Builtin.List.listSameRef, hSi]
  unfold Builtin.List.listExtendWith
  refine wpAny_bind (wpAny_typeOf hT ?_)
  rw [if_neg (by rw [h1]; decide)]
  refine wpAny_bind (wpAny_pyIter_revIter hit ?_)
  refine wpAny_bind (wpAny_holding ?_)
  unfold Builtin.List.listLengthHint
  refine wpAny_bind (wpAny_specialOf hT nolen_lri ?_)
  show wpAny _ A.in1 (specialOf (Value.ref it) (Str.ofString "__length_hint__") >>= _) _ _ _
  refine wpAny_bind (wpAny_specialOf hT hint_lri ?_)
  generalize hid : ("list_reverseiterator.__length_hint__" : String) = id0
  wp_delta
  rw [show splitId id0 = some ("list_reverseiterator", "__length_hint__") from by subst hid; decide +kernel]
  subst hid
  refine wpAny_bind (wpAny_isInstance (b := true) hT (by rw [isSubtype_type]; kernel_rfl) ?_)
  refine wpAny_pure ?_
  rw [if_neg (by decide)]
  have e0 : ((items.size : Nat) : Int) - 1 - ((0 : Nat) : Int) = (items.size : Int) - 1 := by omega
  refine wpAny_pure ⟨plainId_quiet F.plain_extend_loop _, codeAny_extend_loopS W hn _ hSf _ items.size 0 _ _ _ rfl (Nat.zero_le _) ⟨Nat.zero_le _, by rw [e0]; exact hit, hl⟩ hS (ItemsOf.nil _) fun s' acc' c' hm hS' hacc => ?_⟩
  rw [Moved.eq_with hm]
  refine hR s'.heap s'.toks acc' c' (fun b ob hb hb2 e => hm.heap b ob (fun hmem => ?_) e) hS' hacc
  rcases List.mem_cons.mp hmem with e' | hmem
  · exact hb e'
  · exact hb2 (List.mem_singleton.mp hmem)
theorem list_init_rev {it l : Addr} {items : Array Value} {R : Result → Shared → Prop} (hh : A.handled = none) (S : Addr) (hS : s.heap.get? S = some { cls := .type "list", data := .seq #[] })
    (hit : s.heap.IsRevIter it l ((items.size : Int) - 1)) (hl : s.heap.IsList l items) (hne : l ≠ it) (hSi : S ≠ it) (hSl : S ≠ l) (hn : items.size ≤ sizeLine)
    (hR : ∀ h' tk acc' c', (∀ b o, b ≠ S → b ≠ it → s.heap.get? b = some o → h'.get? b = some o) → h'.get? S = some { cls := .type "list", dict := none, data := .seq acc' c', slots := #[] } →
      ItemsOf (fun i v => items[items.size - 1 - i]? = some v) acc' items.size → R (.ok (.ret .none)) { s with heap := h', toks := tk }) :
    wpAny (model prog w) A.in1 (Builtin.«list.__init__» ⟨[.ref S, .ref it], []⟩)
      (fun fin s' => match fin with | .done f => R (.ok f) s' | .again c' => c'.quiet = true ∧ codeAny (model prog w) A c' R s') (fun e s' => R (.error e) s') s := by
  show wpAny _ _ (do let old ← Builtin.List.listItems (.ref S); Builtin.List.listUpdate (.ref S) (fun _ => #[]); letGo old.toList.reverse; Builtin.List.listExtendWith (.ref S) (.ref it) .none) _ _ s
  refine wpAny_bind ?_
  unfold Builtin.List.listItems
  refine wpAny_bind (wpAny_seqItems hS rfl (wpAny_pure ?_))
  show wpAny _ _ (updateSeq S (fun _ => #[]) >>= fun _ => letGo (#[] : Array Value).toList.reverse >>= fun _ => Builtin.List.listExtendWith (.ref S) (.ref it) .none) _ _ s
  refine wpAny_bind (wpAny_updateSeq hS rfl ?_)
  have hS₂ := Heap.get?_update_self (Obj.mapSeq (fun _ => (#[] : Array Value))) hS rfl
  have oth : ∀ b o, b ≠ S → s.heap.get? b = some o → (s.heap.update S (Obj.mapSeq (fun _ => (#[] : Array Value)))).get? b = some o :=
    fun b o hb e => (Heap.get?_update_other _ _ (Ne.symm hb)).trans e
  refine wpAny_bind (wpAny_letGo ?_)
  refine extend_rev hh S .none _ hS₂ (hit.at fun o e => oth _ o (Ne.symm hSi) e) (let ⟨o, ho, z⟩ := hl; ⟨o, oth _ o (Ne.symm hSl) ho, z⟩) hne hSi hSl hn (fun h' tk acc' c' hk hS' hacc => ?_)
  exact hR h' tk acc' c' (fun b o hb hb2 e => hk b o hb hb2 (oth b o hb e)) hS' hacc
theorem call_list_rev {it l : Addr} {items : Array Value} {Q : Value → Shared → Prop} (hh : A.handled = none) (hit : s.heap.IsRevIter it l ((items.size : Int) - 1)) (hl : s.heap.IsList l items) (hne : l ≠ it) (hn : items.size ≤ sizeLine)
    (hQ : ∀ h' tk acc' c', (∀ b o, b ≠ it → s.heap.get? b = some o → h'.get? b = some o) →
      h'.get? s.heap.objs.size = some { cls := .type "list", dict := none, data := .seq acc' c', slots := #[] } → ItemsOf (fun i v => items[items.size - 1 - i]? = some v) acc' items.size → Q (.ref s.heap.objs.size) { s with heap := h', toks := tk }) :
    wpAny (model prog w) A (call (.type "list") [.ref it]) Q E s := by
  obtain ⟨oi, hoi, _⟩ := id hit
  obtain ⟨ol, hol, _⟩ := id hl
  refine callType_codes (Q₁ := fun obj s₁ => obj = .ref s.heap.objs.size ∧ s₁ = { s with heap := s.heap.push { cls := .type "list", data := .seq #[] } }) PySem.F.called_list (PySem.F.typeCall_list_1 _) PySem.F.entry_list_init
    (code_list_new _ ⟨rfl, rfl⟩) fun obj s₁ h₁ => ?_
  obtain ⟨rfl, rfl⟩ := h₁
  have hS : (s.heap.push { cls := .type "list", data := .seq #[] }).get? s.heap.objs.size = some { cls := .type "list", data := .seq #[] } := Heap.get?_push_size _ rfl
  refine ⟨⟨_, hS, rfl⟩, PySem.F.args_list_init_2 _ _, list_init_rev (A := A.in1) hh _ hS (hit.at fun o e => Heap.get?_push_of_some _ e) (hl.push _) hne (Nat.ne_of_gt (Heap.lt_size hoi)) (Nat.ne_of_gt (Heap.lt_size hol)) hn (fun h' tk acc' c' hk hS' hacc => ?_)⟩
  exact ⟨rfl, hQ h' tk acc' c' (fun b o hb e => hk b o (Nat.ne_of_lt (Heap.lt_size e)) hb (Heap.get?_push_of_some _ e)) hS' hacc⟩
def tLstRev (K : PySem.W.Frag) (te : TE) : TE := fun σ H Q => te σ H fun v H1 => ∃ (a : Addr) (xs : List V), v = .ref a ∧ SqL K H1 a xs ∧ ∀ q, H1 q = none → Q (.ref q) (upd H1 q (.lst xs.reverse))
end
section
variable {X : Cx}
theorem pe_lstRev {e : Expr} {te : TE} {p p2 pos pos2 : Pos} (hc : X.calm = true) (hg : Gl X "list") (hm : X.mg "list" = none) (hg2 : Gl X "reversed") (hm2 : X.mg "reversed" = none) (he : PE X e te)
    (hs : starEach [e] X.env = (false, eval e X.env) :: starEach [] X.env := by rfl)
    (hs2 : starEach [.Call (.Name "reversed" p2) [e] [] pos2] X.env = (false, eval (.Call (.Name "reversed" p2) [e] [] pos2) X.env) :: starEach [] X.env := by rfl) :
    PE X (.Call (.Name "list" p) [.Call (.Name "reversed" p2) [e] [] pos2] [] pos) (tLstRev X.K te) := by
  refine ⟨fun pins s σ H Q I h => ?_⟩
  refine Call_ (ld_blt I hg hm (show bootBuiltins "list" = some (.type "list") by decide +kernel) (PyProof.Rows.callWith_type1 (args_cons (Call_ (ld_blt I hg2 hm2 PyProof.Rows.boot_reversed (PyProof.Rows.callWith_type1 (args_cons (thn (he.run pins s σ H _ I h) fun u s1 ⟨v, H1, I1, r1, q1⟩ => args_nil ?_) hs) hs rfl))) hs2) hs2 rfl))
  obtain ⟨a, xs, ev, hq, q⟩ := q1
  subst ev
  obtain rfl : u = Value.ref a := r1
  obtain ⟨its, rv, p', hz⟩ := I1.list hq
  refine call_reversed_list p'.isList (args_nil ?_)
  have k0 : ∀ b o, s1.heap.get? b = some o → (s1.heap.push (revObj a ((its.toArray.size : Int) - 1))).get? b = some o := fun b o e => Heap.get?_push_of_some _ e
  have hl := p'.isList
  obtain ⟨ol, hol, _⟩ := id hl
  have hne : a ≠ s1.heap.objs.size := Nat.ne_of_lt (Heap.lt_size hol)
  have hn : its.toArray.size ≤ sizeLine := by rw [List.size_toArray, ← rv.length]; exact hz
  refine call_list_rev (s := { s1 with heap := s1.heap.push (revObj a ((its.toArray.size : Int) - 1)) }) (I1.ok.hd hc) ⟨_, Heap.get?_push_size _ rfl, rfl, rfl⟩ (hl.push _) hne hn fun h' tk acc c' hk hS hi => ?_
  have hle : s1.heap.objs.size ≤ (s1.heap.push (revObj a ((its.toArray.size : Int) - 1))).objs.size := Nat.le_of_lt (Heap.lt_size (Heap.get?_push_size (h := s1.heap) (o := revObj a ((its.toArray.size : Int) - 1)) rfl))
  exact ⟨.ref _, upd H1 _ (.lst xs.reverse), I1.laid (t' := tk) (fun b o e => hk b o (Nat.ne_of_lt (Heap.lt_size e)) (k0 b o e)) hle ⟨by rw [List.length_reverse]; exact hz, acc.toList, c', vals_rev rv hi, by rw [Array.toArray_toList]; exact hS⟩, rfl, q _ (I1.hok.fresh hle)⟩
end
end RT
namespace Z
open PySem PySem.Spec PyProof.Rows L2

def o_mulL : D → D → Mem → Option D := fun x y M => match y with
  | .int k => (asL M x).bind fun ds => if -1000 ≤ k ∧ k ≤ 1000 ∧ ds.length ≤ 1000 then some (.lst (List.replicate k.toNat ds).flatten) else none
  | _ => none
def m_clear : D → List D → Mem → Option (D × Mem) := fun x xs M => match x, xs with
  | .ref h, [] => (match M[h]? with
    | some (.lst _) => some (.non, M.set h (.lst []))
    | _ => none)
  | _, _ => none
def m_insert : D → List D → Mem → Option (D × Mem) := fun x xs M => match x, xs with
  | .ref h, [.int i, y] => (match M[h]? with
    | some (.lst ds) => if ds.length < 16777216 ∧ 0 ≤ i ∧ i < 1000000 then some (.non, M.set h (.lst (ds.take i.toNat ++ [y] ++ ds.drop i.toNat))) else none
    | _ => none)
  | _, _ => none
def y_lrevM (a : YE) : YE := fun ρ M => (a ρ M).bd fun x M1 => match asL M1 x with
  | some ds => .ok (.ref M1.length) (M1 ++ [.lst ds.reverse])
  | none => .bad
def y_slM (a : YE) (l h : YO) : YE := fun ρ M => (a ρ M).bd fun x M1 => (l ρ M1).bd fun lo M2 => (h ρ M2).bd fun hi M3 => match asL M3 x with
  | some ds => .ok (.ref M3.length) (M3 ++ [.lst (cutD ds lo hi)])
  | none => .bad
def y_makeN (C : Addr) (n m : Nat) (ix : List Nat) (f : List D → Mem → R D) (a kw : YA) : YE := fun ρ M => (a ρ M).bd fun ds M1 => if ds.length = n then (kw ρ M1).bd fun es M2 => if es.length = m then (f ((.ref M2.length :: ds) ++ perm ix es) (M2 ++ [.ins C []])).bd (fun d M3 => match d with
  | .non => .ok (.ref M2.length) M3
  | _ => .bad) else .bad else .bad
section
variable {K : PySem.W.Frag} {W : WX} {ta tb : TE} {a b : YE} {lo hi : YO} {to th : TO} {M : Mem} {Φ : D → Mem → Prop}
theorem rep_flat {w : Wd} {ds : List D} {vs : List V} (r : RepL K w ds vs) : ∀ n : Nat, RepL K w (List.replicate n ds).flatten (List.replicate n vs).flatten
  | 0 => rfl
  | n + 1 => by
    rw [List.replicate_succ, List.flatten_cons, List.replicate_succ, List.flatten_cons]
    exact RepL.append r (rep_flat r n)
theorem oz_mulL {x : D} {k : Int} {ds : List D} (hx : asL M x = some ds) (h0 : -1000 ≤ k) (h1 : k ≤ 1000) (h2 : ds.length ≤ 1000) (q : Φ (.lst (List.replicate k.toNat ds).flatten) M) : OpZ K rRep x (.int k) M Φ := fun w v u Q g r1 r2 kk => by
  obtain ⟨a, vs, rfl, ha, ra⟩ := asL_rep g r1 hx
  cases (show u = V.int k from r2)
  have hl : vs.length ≤ 1000 := by rw [← ra.length]; exact h2
  refine ⟨a, k, vs, rfl, rfl, ha, by omega, by omega, ?_, fun p hp => ?_⟩
  · rw [sizeLine_eq]
    have : vs.length * k.toNat ≤ 1000 * 1000 := Nat.mul_le_mul hl (by omega)
    omega
  · have e := ext_addB (o := .lst (List.replicate k.toNat vs).flatten) g hp
    exact kk _ (w.addB p _) (.lst (List.replicate k.toNat ds).flatten) M e (g.addB hp) ⟨p, _, rfl, upd_same, rep_flat (RepL.mono e _ _ ra) _⟩ q
theorem ko_mulL : OkO K rRep o_mulL := fun x y M d Φ e q => by
  unfold o_mulL at e
  split at e
  · next k =>
    obtain ⟨ds, h1, h2⟩ := Option.bind_eq_some_iff.mp e
    split at h2
    · next h => cases h2; exact oz_mulL h1 h.1 h.2.1 h.2.2 q
    · cases h2
  · cases e
theorem mz_clear {h : Nat} {ds : List D} (hm : M[h]? = some (.lst ds)) (q : Φ .non (M.set h (.lst []))) : MtZ K rClear (.ref h) [] M Φ := fun w v vs Q g r1 r2 kk => by
  obtain ⟨a, ha, rfl⟩ := r1
  cases (show vs = [] from r2)
  obtain ⟨hb, us, hH, rv⟩ := g.own h a _ ha hm
  refine ⟨a, us, rfl, rfl, hH, ?_⟩
  have e3 := ext_put (o := .lst []) g (List.mem_of_getElem? ha)
  exact kk .non (w.put a _) .non _ e3 (g.put (m := .lst []) ha hb ⟨hb, _, upd_same, rfl⟩) rfl q
theorem km_clear : OkM K "list" rClear ty_l m_clear := ⟨fun x M => tyl_ok, fun x xs M d M' Φ e q => by
  unfold m_clear at e
  split at e
  · split at e
    · next h => cases e; exact mz_clear h q
    · cases e
  · cases e⟩
def rIns : V → List V → Hp → VK → Prop := fun x vs H Q => ∃ (l : Addr) (xs : List V) (i : Int) (y : V), x = .ref l ∧ vs = [.int i, y] ∧ H l = some (.lst xs) ∧ xs.length < sizeLine ∧ 0 ≤ i ∧ i < 2 ^ 63 ∧ Q .non (upd H l (.lst (xs.take i.toNat ++ [y] ++ xs.drop i.toNat)))
theorem mt_insZ {X : Cx} : MtR X "list.insert" rIns := mt_insert
theorem mz_insert {h : Nat} {ds : List D} {i : Int} {y : D} (hm : M[h]? = some (.lst ds)) (h1 : ds.length < 16777216) (h2 : 0 ≤ i) (h3 : i < 1000000) (q : Φ .non (M.set h (.lst (ds.take i.toNat ++ [y] ++ ds.drop i.toNat)))) : MtZ K rIns (.ref h) [.int i, y] M Φ := fun w v vs Q g r1 r2 kk => by
  obtain ⟨a, ha, rfl⟩ := r1
  obtain ⟨u, r, rfl, ru, rr⟩ := r2
  obtain ⟨u2, r', rfl, ru2, rr2⟩ := rr
  cases (show r' = [] from rr2)
  have ru' : u = .int i := ru
  subst ru'
  obtain ⟨hb, us, hH, rv⟩ := g.own h a _ ha hm
  refine ⟨a, us, i, u2, rfl, rfl, hH, by rw [← rv.length, sizeLine_eq]; exact h1, h2, by omega, ?_⟩
  have e3 := ext_put (o := .lst (us.take i.toNat ++ [u2] ++ us.drop i.toNat)) g (List.mem_of_getElem? ha)
  exact kk .non (w.put a _) .non _ e3 (g.put (m := .lst (ds.take i.toNat ++ [y] ++ ds.drop i.toNat)) ha hb ⟨hb, _, upd_same, RepL.append (RepL.append (RepL.take _ (RepL.mono e3 _ _ rv)) (RepL.one (Rep.mono e3 _ _ ru2))) (RepL.drop _ (RepL.mono e3 _ _ rv))⟩) rfl q
theorem km_insert : OkM K "list" rIns ty_l m_insert := ⟨fun x M => tyl_ok, fun x xs M d M' Φ e q => by
  unfold m_insert at e
  split at e
  · split at e
    · next h =>
      split at e
      · next h2 => cases e; exact mz_insert h h2.1 h2.2.1 h2.2.2 q
      · cases e
    · cases e
  · cases e⟩
theorem k_lrevM (ha : OkE K W ta a) : OkE K W (RT.tLstRev K ta) (y_lrevM a) := fun ρ M Φ Ξ h => fun w σ Q g e x k =>
  (ha _ _ _ _ (h.bd (Ψ := fun x M1 => ∃ ds, asL M1 x = some ds ∧ Φ (.ref M1.length) (M1 ++ [.lst ds.reverse])) fun x M1 h1 => by
    split at h1
    · next ds e => exact ⟨ds, e, h1⟩
    · exact h1.elim)) w σ _ g e x fun v w1 d M1 e1 g1 r1 ⟨ds, hd, q⟩ => by
    obtain ⟨a, vs, rfl, h2, h3⟩ := asL_SqL g1 r1 hd
    refine ⟨a, vs, rfl, h2, fun p hp => ?_⟩
    have e2 := ext_addM (o := .lst vs.reverse) g1 hp
    exact k _ (w1.addM p _) (.ref M1.length) _ (e1.trans e2) (g1.addM hp (own_lst g1 hp (RepL.reverse h3))) ⟨p, addM_get g1, rfl⟩ q
theorem sz_lstM {x : D} {ds : List D} {l h : Option Int} (hx : asL M x = some ds) (q : Φ (.ref M.length) (M ++ [.lst (cutD ds l h)])) : SlZ K (rSlZ K) x l h M Φ := fun w v Q g r k => by
  obtain ⟨a, vs, rfl, ha, ra⟩ := asL_SqL g r hx
  refine .inl ⟨a, vs, rfl, ha, fun p hp => ?_⟩
  have e := ext_addM (o := .lst (cutV vs l h)) g hp
  exact k _ (w.addM p _) (.ref M.length) _ e (g.addM hp (own_lst g hp (cut_rep ra l h))) ⟨p, addM_get g, rfl⟩ q
theorem k_slM (ha : OkE K W ta a) (hl : OkP K W to lo) (hh : OkP K W th hi) : OkE K W (tSl (rSlZ K) ta to th) (y_slM a lo hi) := fun ρ M Φ Ξ h => ew_sl (ha _ _ _ _ (h.bd fun x M1 h1 => hl _ _ _ _ (h1.bd fun y M2 h2 => hh _ _ _ _ (h2.bd fun z M3 h3 => by
  split at h3
  · next ds e => exact sz_lstM e h3
  · exact h3.elim))))
variable {C : Addr} {Ef : XK} {f : List D → Mem → R D} {tA tK : TA} {xs ks : YA}
theorem k_makeN {n m : Nat} {ix : List Nat} (hE : HE K W Ef) (ha : OkA K W tA xs) (hk : OkA K W tK ks) : OkE K W (tMakeN C n m (spOf K (spR f)) (fun vs zs => vs ++ perm ix zs) Ef tA tK) (y_makeN C n m ix f xs ks) := fun ρ M Φ Ξ h => ew_makeN (hE ρ Ξ) (ha _ _ _ _ (h.bd fun ds M1 h1 => by
  obtain ⟨q1, h2⟩ := ifsat h1
  refine ⟨q1, hk _ _ _ _ (h2.bd fun es M2 h3 => ?_)⟩
  obtain ⟨q2, h4⟩ := ifsat h3
  exact ⟨q2, mk_sat h4⟩))
theorem k_makeK0 {m : Nat} {ix : List Nat} (hE : HE K W Ef) (hk : OkA K W tK ks) : OkE K W (tMakeK C 0 m (spOf K (spR f)) (fun vs zs => vs ++ perm ix zs) Ef tNil tK) (y_makeN C 0 m ix f y_nil ks) := k_makeN hE k_nil hk
end
end Z
namespace Lw
open PySem PySem.Spec PyProof.Rows L2 Z
structure Kx (K : PySem.W.Frag) : Prop where
  triv : True
noncomputable def b_new_source (K : PySem.W.Frag) : YS := (y_seq (y_asg (y_ife (y_t (y_op o_lt (y_var 1) (y_cb c_len (y_cons (y_var 0) y_nil)))) (y_op o_ix (y_var 0) (y_var 1)) (y_c (.int 0))) (g_nm 2))
  (y_seq (y_asg (y_ife (y_t (y_op o_ge (y_cb c_abs (y_cons (y_var 2) y_nil)) (y_op o_pow (y_c (.int 10)) (y_c (.int 18))))) (y_cb c_abs (y_cons (y_var 2) y_nil)) (y_c (.int 0))) (g_nm 3))
  (y_ret (y_lstM (y_cons (y_var 3) (y_cons (y_op o_add (y_op o_add (y_op o_mod (y_cb c_int (y_cons (y_var 2) y_nil)) (y_c (.int 2147483549))) (y_op o_mul (y_c (.int 5381)) (y_var 1))) (y_c (.int 97))) (y_cons (y_c (.int 0)) y_nil)))))))
noncomputable def y_new_source (K : PySem.W.Frag) : List D → Mem → R D := y_fn 4 2 (b_new_source K)
noncomputable def b_draw (K : PySem.W.Frag) : YS := (y_seq (y_if (y_t (y_op o_gt (y_op o_ix (y_var 0) (y_c (.int 0))) (y_c (.int 0)))) (y_seq (y_asg (y_op o_mod (y_cb c_int (y_cons (y_op o_ix (y_var 0) (y_c (.int 0))) y_nil)) (y_var 1)) (g_nm 2))
  (y_seq (y_asg (y_op o_div (y_op o_ix (y_var 0) (y_c (.int 0))) (y_var 1)) (g_setL (y_var 0) (y_c (.int 0))))
  (y_ret (y_var 2)))) y_nx)
  (y_seq (y_asg (y_op o_add (y_op o_ix (y_var 0) (y_c (.int 2))) (y_c (.int 1))) (g_setL (y_var 0) (y_c (.int 2))))
  (y_seq (y_asg (y_op o_ix (y_var 0) (y_c (.int 2))) (g_nm 3))
  (y_seq (y_asg (y_op o_mod (y_cb c_int (y_cons (y_op o_add (y_op o_add (y_op o_mul (y_op o_ix (y_var 0) (y_c (.int 1))) (y_c (.int 48271))) (y_op o_mul (y_op o_mul (y_c (.int 7919)) (y_var 3)) (y_var 3))) (y_c (.int 11))) y_nil)) (y_c (.int 2147483563))) (g_setL (y_var 0) (y_c (.int 1))))
  (y_ret (y_op o_mod (y_op o_mod (y_cb c_int (y_cons (y_op o_pow (y_op o_div (y_op o_ix (y_var 0) (y_c (.int 1))) (y_c (.int 32))) (y_c (.int 3))) y_nil)) (y_c (.int 2147483587))) (y_var 1)))))))
noncomputable def y_draw (K : PySem.W.Frag) : List D → Mem → R D := y_fn 4 2 (b_draw K)
noncomputable def b_of (K : PySem.W.Frag) : YS := (y_ret (y_op o_ix (y_var 1) (y_call (y_draw K) (y_cons (y_var 0) (y_cons (y_cb c_len (y_cons (y_var 1) y_nil)) y_nil)))))
noncomputable def y_of (K : PySem.W.Frag) : List D → Mem → R D := y_fn 2 2 (b_of K)
noncomputable def b_own_deed (K : PySem.W.Frag) : YS := (y_seq (y_asg (y_call (y_of K) (y_cons (y_var 0) (y_cons (y_lst (y_cons (y_c (.str "a")) (y_cons (y_c (.str "b")) (y_cons (y_c (.str "mail")) y_nil)))) y_nil))) (g_nm 1))
  (y_seq (y_asg (y_call (y_of K) (y_cons (y_var 0) (y_cons (y_lst (y_cons (y_c (.int 0)) (y_cons (y_c (.int 1)) (y_cons (y_call (y_draw K) (y_cons (y_var 0) (y_cons (y_op o_pow (y_c (.int 10)) (y_c (.int 30))) y_nil))) y_nil)))) y_nil))) (g_nm 2))
  (y_seq (y_asg (y_call (y_draw K) (y_cons (y_var 0) (y_cons (y_c (.int 3)) y_nil))) (g_nm 3))
  (y_seq (y_if (y_t (y_op o_eq (y_var 3) (y_c (.int 0)))) (y_seq (y_asg (y_call (y_draw K) (y_cons (y_var 0) (y_cons (y_c (.int 4)) y_nil))) (g_nm 4))
  (y_seq (y_asg (y_lc (i_rng1 (y_cons (y_var 4) y_nil)) (g_nm 6) y_yes (y_call (y_of K) (y_cons (y_var 0) (y_cons (y_lst (y_cons (y_c .non) (y_cons (y_var 2) (y_cons (y_c (.int 0)) (y_cons (y_c (.int 1)) y_nil))))) y_nil))) [6]) (g_nm 5))
  (y_ret (y_tup (y_cons (y_c (.str "tell")) (y_cons (y_var 1) (y_cons (y_cb c_tup (y_cons (y_var 5) y_nil)) y_nil))))))) y_nx)
  (y_ret (y_tup (y_cons (y_op o_ix (y_lst (y_cons (y_c (.str "put")) (y_cons (y_c (.str "clear")) y_nil))) (y_op o_sub (y_var 3) (y_c (.int 1)))) (y_cons (y_var 2) (y_cons (y_var 1) y_nil)))))))))
noncomputable def y_own_deed (K : PySem.W.Frag) : List D → Mem → R D := y_fn 7 1 (b_own_deed K)
noncomputable def b_other (K : PySem.W.Frag) : YS := (y_seq (y_asg (y_call (y_draw K) (y_cons (y_var 0) (y_cons (y_c (.int 6)) y_nil))) (g_nm 2))
  (y_seq (y_if (y_t (y_op o_eq (y_var 2) (y_c (.int 0)))) (y_ret (y_lstM y_nil)) y_nx)
  (y_seq (y_if (y_t (y_op o_eq (y_var 2) (y_c (.int 1)))) (y_ret (y_slM (y_cb c_lst (y_cons (y_var 1) y_nil)) y_pn (y_ps (y_un u_neg (y_c (.int 1)))))) y_nx)
  (y_seq (y_if (y_t (y_op o_eq (y_var 2) (y_c (.int 2)))) (y_ret (y_lrevM (y_cb c_lst (y_cons (y_var 1) y_nil)))) y_nx)
  (y_seq (y_if (y_t (y_op o_eq (y_var 2) (y_c (.int 3)))) (y_ret (y_lcMG (i_rng1 (y_cons (y_call (y_draw K) (y_cons (y_var 0) (y_cons (y_c (.int 5)) y_nil))) y_nil)) (g_nm 4) y_yes (y_call (y_own_deed K) (y_cons (y_var 0) y_nil)) [4])) y_nx)
  (y_seq (y_if (y_tand (y_t (y_op o_eq (y_var 2) (y_c (.int 4)))) (y_t (y_op o_ne (y_var 1) (y_lst y_nil)))) (y_seq (y_asg (y_call (y_draw K) (y_cons (y_var 0) (y_cons (y_cb c_len (y_cons (y_var 1) y_nil)) y_nil))) (g_nm 3))
  (y_ret (y_opR o_addM (y_op o_add (y_sl (y_var 1) y_pn (y_ps (y_var 3))) (y_lst (y_cons (y_call (y_own_deed K) (y_cons (y_var 0) y_nil)) y_nil))) (y_sl (y_var 1) (y_ps (y_op o_add (y_var 3) (y_c (.int 1)))) y_pn)))) y_nx)
  (y_ret (y_cb c_lstM (y_cons (y_var 1) y_nil)))))))))
noncomputable def y_other (K : PySem.W.Frag) : List D → Mem → R D := y_fn 5 2 (b_other K)
noncomputable def b_Run_init (K : PySem.W.Frag) : YS := (y_seq (y_setF (He.ga K "Run") "deeds" (y_var 0) (y_cb c_tup (y_cons (y_var 1) y_nil)))
  (y_seq (y_setF (He.ga K "Run") "once" (y_var 0) (y_cb c_tup (y_cons (y_var 2) y_nil)))
  (y_seq (y_setF (He.ga K "Run") "anew" (y_var 0) (y_cb c_tup (y_cons (y_var 3) y_nil)))
  (y_seq (y_asg (y_tup (y_cons (y_tup (y_cons (y_c (.str "once")) (y_cons (y_op o_eq (y_fld (He.ga K "Run") "deeds" (y_var 0)) (y_fld (He.ga K "Run") "once" (y_var 0))) y_nil))) (y_cons (y_tup (y_cons (y_c (.str "anew")) (y_cons (y_op o_eq (y_fld (He.ga K "Run") "deeds" (y_var 0)) (y_fld (He.ga K "Run") "anew" (y_var 0))) y_nil))) (y_cons (y_tup (y_cons (y_c (.str "nothing")) (y_cons (y_op o_eq (y_fld (He.ga K "Run") "deeds" (y_var 0)) (y_tup y_nil)) y_nil))) y_nil)))) (g_nm 4))
  (y_setF (He.ga K "Run") "classes" (y_var 0) (y_cb c_tup (y_cons (y_lc (i_any (y_var 4)) (g_tup 2 (g_cons (g_nm 5) (g_cons (g_nm 6) g_nil))) (y_t (y_var 6)) (y_var 5) [5, 6]) y_nil)))))))
noncomputable def y_Run_init (K : PySem.W.Frag) : List D → Mem → R D := y_fn 7 4 (b_Run_init K)
noncomputable def b_Run_is_mixed (K : PySem.W.Frag) : YS := (y_ret (y_op o_eq (y_fld (He.ga K "Run") "classes" (y_var 0)) (y_tup y_nil)))
noncomputable def y_Run_is_mixed (K : PySem.W.Frag) : List D → Mem → R D := y_fn 1 1 (b_Run_is_mixed K)
noncomputable def b_Run_eq (K : PySem.W.Frag) : YS := (y_seq (y_if (y_tnot (y_t (y_cb (c_isiO (He.ga K "Run")) (y_cons (y_var 1) (y_cons (y_c (.glo (He.ga K "Run"))) y_nil))))) (y_ret (y_c (.bl false))) y_nx)
  (y_ret (y_op o_eq (y_tup (y_cons (y_fld (He.ga K "Run") "deeds" (y_var 0)) (y_cons (y_fld (He.ga K "Run") "once" (y_var 0)) (y_cons (y_fld (He.ga K "Run") "anew" (y_var 0)) y_nil)))) (y_tup (y_cons (y_fld (He.ga K "Run") "deeds" (y_var 1)) (y_cons (y_fld (He.ga K "Run") "once" (y_var 1)) (y_cons (y_fld (He.ga K "Run") "anew" (y_var 1)) y_nil)))))))
noncomputable def y_Run_eq (K : PySem.W.Frag) : List D → Mem → R D := y_fn 2 2 (b_Run_eq K)
noncomputable def b_right (K : PySem.W.Frag) : YS := (y_seq (y_asg (y_lcMG (i_rng1 (y_cons (y_call (y_draw K) (y_cons (y_var 0) (y_cons (y_c (.int 5)) y_nil))) y_nil)) (g_nm 11) y_yes (y_call (y_own_deed K) (y_cons (y_var 0) y_nil)) [11]) (g_nm 1))
  (y_seq (y_par 2 3 (y_cons (y_call (y_other K) (y_cons (y_var 0) (y_cons (y_var 1) y_nil))) (y_cons (y_call (y_other K) (y_cons (y_var 0) (y_cons (y_var 1) y_nil))) y_nil)))
  (y_seq (y_par 4 5 (y_cons (y_make (He.ga K "Run") (y_Run_init K) [] (y_cons (y_var 1) (y_cons (y_var 2) (y_cons (y_var 3) y_nil)))) (y_cons (y_lst (y_cons (y_cb c_tup (y_cons (y_var 1) y_nil)) (y_cons (y_cb c_tup (y_cons (y_var 2) y_nil)) (y_cons (y_cb c_tup (y_cons (y_var 3) y_nil)) y_nil)))) y_nil)))
  (y_seq (y_asg (y_makeN (He.ga K "Run") 0 3 [1, 2, 0] (y_Run_init K) y_nil (y_cons (y_cb c_tup (y_cons (y_var 3) y_nil)) (y_cons (y_cb c_tup (y_cons (y_var 1) y_nil)) (y_cons (y_cb c_lst (y_cons (y_var 2) y_nil)) y_nil)))) (g_nm 6))
  (y_seq (y_asg (y_call (y_other K) (y_cons (y_var 0) (y_cons (y_var 1) y_nil))) (g_nm 7))
  (y_seq (y_drop (y_bm ty_l m_append (y_var 1) (y_cons (y_tup (y_cons (y_c (.str "clear")) (y_cons (y_c (.int 7)) (y_cons (y_c (.str "z")) y_nil)))) y_nil)))
  (y_seq (y_drop (y_bm ty_l m_clear (y_var 2) y_nil))
  (y_seq (y_drop (y_bm ty_l m_insert (y_var 3) (y_cons (y_c (.int 0)) (y_cons (y_tup (y_cons (y_c (.str "tell")) (y_cons (y_c (.str "z")) (y_cons (y_tup y_nil) y_nil)))) y_nil))))
  (y_seq (y_if (y_t (y_op o_ne (y_cb c_repr (y_cons (y_lst (y_cons (y_fld (He.ga K "Run") "deeds" (y_var 4)) (y_cons (y_fld (He.ga K "Run") "once" (y_var 4)) (y_cons (y_fld (He.ga K "Run") "anew" (y_var 4)) y_nil)))) y_nil)) (y_cb c_repr (y_cons (y_var 5) y_nil)))) (y_ret (y_c (.bl false))) y_nx)
  (y_seq (y_asg (y_op o_add (y_op o_mulL (y_lst (y_cons (y_c (.str "once")) y_nil)) (y_cb c_int (y_cons (y_op o_eq (y_op o_ix (y_var 5) (y_c (.int 0))) (y_op o_ix (y_var 5) (y_c (.int 1)))) y_nil))) (y_op o_mulL (y_lst (y_cons (y_c (.str "anew")) y_nil)) (y_cb c_int (y_cons (y_op o_eq (y_op o_ix (y_var 5) (y_c (.int 0))) (y_op o_ix (y_var 5) (y_c (.int 2)))) y_nil)))) (g_nm 8))
  (y_seq (y_asg (y_op o_add (y_var 8) (y_op o_mulL (y_lst (y_cons (y_c (.str "nothing")) y_nil)) (y_cb c_int (y_cons (y_op o_eq (y_op o_ix (y_var 5) (y_c (.int 0))) (y_tup y_nil)) y_nil)))) (g_nm 8))
  (y_seq (y_if (y_tor (y_t (y_op o_ne (y_cb c_repr (y_cons (y_fld (He.ga K "Run") "classes" (y_var 4)) y_nil)) (y_cb c_repr (y_cons (y_cb c_tup (y_cons (y_var 8) y_nil)) y_nil)))) (y_t (y_op o_ne (y_cb c_repr (y_cons (y_prop (He.ga K "Run") (y_Run_is_mixed K) (y_var 4)) y_nil)) (y_cb c_repr (y_cons (y_op o_eq (y_var 8) (y_lst y_nil)) y_nil))))) (y_ret (y_c (.bl false))) y_nx)
  (y_seq (y_if (y_tor (y_tnot (y_t (y_opR (o_eqO (He.ga K "Run") (He.ga K "Run") (y_Run_eq K)) (y_var 4) (y_var 6)))) (y_tor (y_t (y_opR (o_neO (He.ga K "Run") (He.ga K "Run") (y_Run_eq K)) (y_var 4) (y_var 6))) (y_tor (y_t (y_opR (o_eqX (He.ga K "Run") [] (y_Run_eq K)) (y_var 4) (y_var 5))) (y_t (y_opR (o_eqX (He.ga K "Run") [] (y_Run_eq K)) (y_var 4) (y_c (.int 0))))))) (y_ret (y_c (.bl false))) y_nx)
  (y_seq (y_for (i_rng1 (y_cons (y_c (.int 3)) y_nil)) (g_nm 9)
  (y_seq (y_asg (y_cb c_lstM (y_cons (y_var 5) y_nil)) (g_nm 10))
  (y_seq (y_asg (y_cb c_tup (y_cons (y_var 7) y_nil)) (g_setL (y_var 10) (y_var 9)))
  (y_if (y_t (y_op o_ne (y_opR (o_eqO (He.ga K "Run") (He.ga K "Run") (y_Run_eq K)) (y_var 4) (y_make (He.ga K "Run") (y_Run_init K) [] (y_cons (y_op o_ix (y_var 10) (y_c (.int 0))) (y_cons (y_op o_ix (y_var 10) (y_c (.int 1))) (y_cons (y_op o_ix (y_var 10) (y_c (.int 2))) y_nil))))) (y_op o_eq (y_var 10) (y_var 5)))) (y_ret (y_c (.bl false))) y_nx))))
  (y_seq (y_if (y_t (y_op o_ne (y_cb c_repr (y_cons (y_fld (He.ga K "Run") "classes" (y_var 4)) y_nil)) (y_cb c_repr (y_cons (y_cb c_tup (y_cons (y_var 8) y_nil)) y_nil)))) (y_ret (y_c (.bl false))) y_nx)
  (y_ret (y_op o_eq (y_cb c_repr (y_cons (y_lst (y_cons (y_fld (He.ga K "Run") "deeds" (y_var 4)) (y_cons (y_fld (He.ga K "Run") "once" (y_var 4)) (y_cons (y_fld (He.ga K "Run") "anew" (y_var 4)) y_nil)))) y_nil)) (y_cb c_repr (y_cons (y_var 5) y_nil)))))))))))))))))))
noncomputable def y_right (K : PySem.W.Frag) : List D → Mem → R D := y_fn 12 1 (b_right K)
noncomputable def b_law (K : PySem.W.Frag) : YS := (y_seq (y_for (i_rng1 (y_cons (y_cb c_max2 (y_cons (y_c (.int 1)) (y_cons (y_cb c_min2 (y_cons (y_c (.int 4)) (y_cons (y_cb c_len (y_cons (y_var 0) y_nil)) y_nil))) y_nil))) y_nil)) (g_nm 1)
  (y_seq (y_asg (y_call (y_new_source K) (y_cons (y_var 0) (y_cons (y_var 1) y_nil))) (g_nm 2))
  (y_for (i_rng1 (y_cons (y_c (.int 4)) y_nil)) (g_nm 3)
  (y_if (y_tnot (y_t (y_call (y_right K) (y_cons (y_var 2) y_nil)))) (y_ret (y_c (.bl false))) y_nx))))
  (y_ret (y_c (.bl true))))
noncomputable def y_law (K : PySem.W.Frag) : List D → Mem → R D := y_fn 4 1 (b_law K)
theorem in_new_source {K : PySem.W.Frag} {x0 x1 : D} {M : Mem} : y_new_source K [x0, x1] M = y_gc M (y_end (b_new_source K [some x0, some x1, none, none] M)) := rfl
theorem in_draw {K : PySem.W.Frag} {x0 x1 : D} {M : Mem} : y_draw K [x0, x1] M = y_gc M (y_end (b_draw K [some x0, some x1, none, none] M)) := rfl
theorem in_of {K : PySem.W.Frag} {x0 x1 : D} {M : Mem} : y_of K [x0, x1] M = y_gc M (y_end (b_of K [some x0, some x1] M)) := rfl
theorem in_own_deed {K : PySem.W.Frag} {x0 : D} {M : Mem} : y_own_deed K [x0] M = y_gc M (y_end (b_own_deed K [some x0, none, none, none, none, none, none] M)) := rfl
theorem in_other {K : PySem.W.Frag} {x0 x1 : D} {M : Mem} : y_other K [x0, x1] M = y_gc M (y_end (b_other K [some x0, some x1, none, none, none] M)) := rfl
theorem in_Run_init {K : PySem.W.Frag} {x0 x1 x2 x3 : D} {M : Mem} : y_Run_init K [x0, x1, x2, x3] M = y_gc M (y_end (b_Run_init K [some x0, some x1, some x2, some x3, none, none, none] M)) := rfl
theorem in_Run_is_mixed {K : PySem.W.Frag} {x0 : D} {M : Mem} : y_Run_is_mixed K [x0] M = y_gc M (y_end (b_Run_is_mixed K [some x0] M)) := rfl
theorem in_Run_eq {K : PySem.W.Frag} {x0 x1 : D} {M : Mem} : y_Run_eq K [x0, x1] M = y_gc M (y_end (b_Run_eq K [some x0, some x1] M)) := rfl
theorem in_right {K : PySem.W.Frag} {x0 : D} {M : Mem} : y_right K [x0] M = y_gc M (y_end (b_right K [some x0, none, none, none, none, none, none, none, none, none, none, none] M)) := rfl
theorem in_law {K : PySem.W.Frag} {x0 : D} {M : Mem} : y_law K [x0] M = y_gc M (y_end (b_law K [some x0, none, none, none] M)) := rfl
structure Fx (K : PySem.W.Frag) (mg : Str → Option Value) : Prop where
  X : ∃ h : Heap, K.In h ∧ h.Ns mainGlobals mg
  c : He5.SaysA fa fn K
  ex : exB K = true
section
variable {K : PySem.W.Frag} {mg : Str → Option Value}
theorem Fx.e (T : Fx K mg) {b : Bool} (h : b ∈ exL K) : b = true := List.all_eq_true.mp T.ex b h
theorem Fx.g_draw (T : Fx K mg) : mg "_law_draw" = some (.ref (He.ga K "_law_draw")) := by
  obtain ⟨h, X, G⟩ := T.X
  exact He.glo_ok X G (T.c.fact 0 (f := .glo "_law_draw") rfl)
theorem Fx.g_of (T : Fx K mg) : mg "_law_of" = some (.ref (He.ga K "_law_of")) := by
  obtain ⟨h, X, G⟩ := T.X
  exact He.glo_ok X G (T.c.fact 1 (f := .glo "_law_of") rfl)
theorem Fx.g_own_deed (T : Fx K mg) : mg "_law_own_deed" = some (.ref (He.ga K "_law_own_deed")) := by
  obtain ⟨h, X, G⟩ := T.X
  exact He.glo_ok X G (T.c.fact 2 (f := .glo "_law_own_deed") rfl)
theorem Fx.g_Run (T : Fx K mg) : mg "Run" = some (.ref (He.ga K "Run")) := by
  obtain ⟨h, X, G⟩ := T.X
  exact He.glo_ok X G (T.c.fact 3 (f := .glo "Run") rfl)
theorem Fx.g_other (T : Fx K mg) : mg "_law_other" = some (.ref (He.ga K "_law_other")) := by
  obtain ⟨h, X, G⟩ := T.X
  exact He.glo_ok X G (T.c.fact 4 (f := .glo "_law_other") rfl)
theorem Fx.g_new_source (T : Fx K mg) : mg "_law_new_source" = some (.ref (He.ga K "_law_new_source")) := by
  obtain ⟨h, X, G⟩ := T.X
  exact He.glo_ok X G (T.c.fact 5 (f := .glo "_law_new_source") rfl)
theorem Fx.g_right (T : Fx K mg) : mg "_law_right" = some (.ref (He.ga K "_law_right")) := by
  obtain ⟨h, X, G⟩ := T.X
  exact He.glo_ok X G (T.c.fact 6 (f := .glo "_law_right") rfl)
theorem Fx.g_law (T : Fx K mg) : mg "law" = some (.ref (He.ga K "law")) := by
  obtain ⟨h, X, G⟩ := T.X
  exact He.glo_ok X G (T.c.fact 7 (f := .glo "law") rfl)
theorem Fx.f_abs (T : Fx K mg) : mg "abs" = none := by
  obtain ⟨h, X, G⟩ := T.X
  exact He.free_ok X G (T.c.fact 8 (f := .free "abs") rfl)
theorem Fx.f_int (T : Fx K mg) : mg "int" = none := by
  obtain ⟨h, X, G⟩ := T.X
  exact He.free_ok X G (T.c.fact 9 (f := .free "int") rfl)
theorem Fx.f_isinstance (T : Fx K mg) : mg "isinstance" = none := by
  obtain ⟨h, X, G⟩ := T.X
  exact He.free_ok X G (T.c.fact 10 (f := .free "isinstance") rfl)
theorem Fx.f_len (T : Fx K mg) : mg "len" = none := by
  obtain ⟨h, X, G⟩ := T.X
  exact He.free_ok X G (T.c.fact 11 (f := .free "len") rfl)
theorem Fx.f_list (T : Fx K mg) : mg "list" = none := by
  obtain ⟨h, X, G⟩ := T.X
  exact He.free_ok X G (T.c.fact 12 (f := .free "list") rfl)
theorem Fx.f_max (T : Fx K mg) : mg "max" = none := by
  obtain ⟨h, X, G⟩ := T.X
  exact He.free_ok X G (T.c.fact 13 (f := .free "max") rfl)
theorem Fx.f_min (T : Fx K mg) : mg "min" = none := by
  obtain ⟨h, X, G⟩ := T.X
  exact He.free_ok X G (T.c.fact 14 (f := .free "min") rfl)
theorem Fx.f_range (T : Fx K mg) : mg "range" = none := by
  obtain ⟨h, X, G⟩ := T.X
  exact He.free_ok X G (T.c.fact 15 (f := .free "range") rfl)
theorem Fx.f_repr (T : Fx K mg) : mg "repr" = none := by
  obtain ⟨h, X, G⟩ := T.X
  exact He.free_ok X G (T.c.fact 16 (f := .free "repr") rfl)
theorem Fx.f_reversed (T : Fx K mg) : mg "reversed" = none := by
  obtain ⟨h, X, G⟩ := T.X
  exact He.free_ok X G (T.c.fact 17 (f := .free "reversed") rfl)
theorem Fx.f_tuple (T : Fx K mg) : mg "tuple" = none := by
  obtain ⟨h, X, G⟩ := T.X
  exact He.free_ok X G (T.c.fact 18 (f := .free "tuple") rfl)
theorem Fx.cl_Run (T : Fx K mg) : Cls K (He.ga K "Run") := He.cls_ok (T.c.fact 19 (f := .cls "Run") rfl)
theorem Fx.no_Run_deeds (T : Fx K mg) : NoAttr K (He.ga K "Run") "deeds" := He.noat_ok (T.c.fact 20 (f := .noat "Run" "deeds") rfl)
theorem Fx.no_Run_once (T : Fx K mg) : NoAttr K (He.ga K "Run") "once" := He.noat_ok (T.c.fact 21 (f := .noat "Run" "once") rfl)
theorem Fx.no_Run_anew (T : Fx K mg) : NoAttr K (He.ga K "Run") "anew" := He.noat_ok (T.c.fact 22 (f := .noat "Run" "anew") rfl)
theorem Fx.no_Run_classes (T : Fx K mg) : NoAttr K (He.ga K "Run") "classes" := He.noat_ok (T.c.fact 23 (f := .noat "Run" "classes") rfl)
theorem Fx.m_Run (T : Fx K mg) : Mk K (He.ga K "Run") (He.ma K (He.ga K "Run") "__init__") := He.mkr_ok (T.c.fact 24 (f := .mkr "Run") rfl)
theorem Fx.me_Run_eq (T : Fx K mg) : Meth K (He.ga K "Run") "__eq__" (He.ma K (He.ga K "Run") "__eq__") := He.meth_ok (T.c.fact 25 (f := .meth "Run" "__eq__") rfl)
theorem Fx.ins_Run (T : Fx K mg) : InsC K (He.ga K "Run") := insB_ok (T.e (by simp [exL]))
theorem Fx.kit_Run (T : Fx K mg) : kitC K "Run" = true := T.e (by simp [exL])
theorem Fx.pr_Run_is_mixed (T : Fx K mg) : PropOf K (He.ga K "Run") "is_mixed" (He.ma K (He.ga K "Run") "is_mixed") (He5.wf K (He.ga K "Run") "property" "is_mixed") := propB_ok (T.e (by simp [exL]))
theorem Fx.eb_Run (T : Fx K mg) : eqBB K "Run" = true := T.e (by simp [exL])
theorem Fx.nf_Run_Run (T : Fx K mg) : PySem.W.notFirst K (He.ga K "Run") (.ref (He.ga K "Run")) = true := T.e (by simp [exL])
theorem Fx.nb_Run (T : Fx K mg) : neBB K (He.ga K "Run") = true := T.e (by simp [exL])
theorem Fx.d_new_source (T : Fx K mg) : ∃ fd, Fd_new_source K (He.ga K "_law_new_source") fd := T.c.def_ 0 (d := D_new_source) rfl
theorem Fx.d_draw (T : Fx K mg) : ∃ fd, Fd_draw K (He.ga K "_law_draw") fd := T.c.def_ 1 (d := D_draw) rfl
theorem Fx.d_of (T : Fx K mg) : ∃ fd, Fd_of K (He.ga K "_law_of") fd := T.c.def_ 2 (d := D_of) rfl
theorem Fx.d_own_deed (T : Fx K mg) : ∃ fd, Fd_own_deed K (He.ga K "_law_own_deed") fd := T.c.def_ 3 (d := D_own_deed) rfl
theorem Fx.d_other (T : Fx K mg) : ∃ fd, Fd_other K (He.ga K "_law_other") fd := T.c.def_ 4 (d := D_other) rfl
theorem Fx.d_Run_init (T : Fx K mg) : ∃ fd, Fd_Run_init K (He.ma K (He.ga K "Run") "__init__") fd := T.c.def_ 5 (d := D_Run_init) rfl
theorem Fx.d_Run_is_mixed (T : Fx K mg) : ∃ fd, Fd_Run_is_mixed K (He5.wf K (He.ga K "Run") "property" "is_mixed") fd := T.c.def_ 6 (d := D_Run_is_mixed) rfl
theorem Fx.d_Run_eq (T : Fx K mg) : ∃ fd, Fd_Run_eq K (He.ma K (He.ga K "Run") "__eq__") fd := T.c.def_ 7 (d := D_Run_eq) rfl
theorem Fx.d_right (T : Fx K mg) : ∃ fd, Fd_right K (He.ga K "_law_right") fd := T.c.def_ 8 (d := D_right) rfl
theorem Fx.d_law (T : Fx K mg) : ∃ fd, Fd_law K (He.ga K "law") fd := T.c.def_ 9 (d := D_law) rfl
theorem Fx.k (T : Fx K mg) : Kx K := ⟨trivial⟩
end
section
variable {P : Program} {w : World} {K : PySem.W.Frag} {mg : Str → Option Value} {base : Heap}
theorem ok_new_source (T : Fx K mg) : ∃ fd, Callee P w K mg base "_law_new_source" 4 ["_law_script", "_law_place"] (spR (y_new_source K)) (He.ga K "_law_new_source") fd := by
  obtain ⟨fd, F⟩ := T.d_new_source
  refine ⟨fd, fnzD F sc_new_source (fun _ _ _ _ h => y_len h) fun cdv A outer s H E hr => ?_, T.g_new_source, F.kp, F.bindsN fun _ _ _ _ _ _ us hl => match us, hl with | [_, _], _ => rfl⟩
  have tk : Takes (cxOf (L2.CX P w) P w K mg base ["_law_script", "_law_place", "_law_cell", "_law_large"] "_law_new_source" (defScope s_new_source) (He.ga K "_law_new_source") cdv A outer s H E) (WF E) := takes_of rfl rfl rfl rfl
  refine ⟨_, (pss_cons (ps_set (i := 2) sc_new_source.nd rfl (Or.inl rfl) (pe_ifExp (pt_cmpR op_lt (pv 1) (pe_callB call_lenZ (by rfl) T.f_len (by decide +kernel) (pa_cons (pv 0) pa_nil)) (nomark _)) (pe_ix ix_seq (pv 0) (pv 1) (fun _ _ => rfl)) pe_int))
      (pss_cons (ps_set (i := 3) sc_new_source.nd rfl (Or.inl rfl) (pe_ifExp (pt_cmpR op_ge (pe_callB call_absZ (by rfl) T.f_abs (by decide +kernel) (pa_cons (pv 2) pa_nil)) (pe_op op_pow pe_int pe_int) (nomark _)) (pe_callB call_absZ (by rfl) T.f_abs (by decide +kernel) (pa_cons (pv 2) pa_nil)) pe_int))
      (pss_one (ps_ret (Z.pe_lstM (pa_cons (pv 3) (pa_cons (pe_op op_addZ (pe_op op_addZ (pe_op op_mod (pe_callTy call_intZ (by rfl) T.f_int (by decide +kernel) (pa_cons (pv 2) pa_nil)) pe_int) (pe_op op_mul pe_int (pv 1))) pe_int) (pa_cons pe_int pa_nil)))))))), ?_⟩
  exact fun ds M Φ Ξ h => y_body (N := ["_law_script", "_law_place", "_law_cell", "_law_large"]) (np := 2) (s := b_new_source K) ((k_seq (k_asg kg_nm (k_ife (k_t (k_op ko_lt k_var (k_cb kc_len (k_cons k_var k_nil)))) (k_op ko_ix k_var k_var) (k_c fun _ => rfl)))
      (k_seq (k_asg kg_nm (k_ife (k_t (k_op ko_ge (k_cb kc_abs (k_cons k_var k_nil)) (k_op ko_pow (k_c fun _ => rfl) (k_c fun _ => rfl)))) (k_cb kc_abs (k_cons k_var k_nil)) (k_c fun _ => rfl)))
      (k_ret (k_lstM (k_cons k_var (k_cons (k_op ko_add (k_op ko_add (k_op ko_mod (k_cb kc_int (k_cons k_var k_nil)) (k_c fun _ => rfl)) (k_op ko_mul (k_c fun _ => rfl) k_var)) (k_c fun _ => rfl)) (k_cons (k_c fun _ => rfl) k_nil)))))))) h
theorem ok_draw (T : Fx K mg) : ∃ fd, Callee P w K mg base "_law_draw" 4 ["_law_source", "_law_many"] (spR (y_draw K)) (He.ga K "_law_draw") fd := by
  obtain ⟨fd, F⟩ := T.d_draw
  refine ⟨fd, fnzD F sc_draw (fun _ _ _ _ h => y_len h) fun cdv A outer s H E hr => ?_, T.g_draw, F.kp, F.bindsN fun _ _ _ _ _ _ us hl => match us, hl with | [_, _], _ => rfl⟩
  have tk : Takes (cxOf (L2.CX P w) P w K mg base ["_law_source", "_law_many", "_law_digit", "_law_turn"] "_law_draw" (defScope s_draw) (He.ga K "_law_draw") cdv A outer s H E) (WF E) := takes_of rfl rfl rfl rfl
  refine ⟨_, (pss_cons (ps_if (pt_cmpR op_gt (pe_ix ix_seq (pv 0) pe_int (fun _ _ => rfl)) pe_int (nomark _)) (pss_cons (ps_set (i := 2) sc_draw.nd rfl (Or.inl rfl) (pe_op op_mod (pe_callTy call_intZ (by rfl) T.f_int (by decide +kernel) (pa_cons (pe_ix ix_seq (pv 0) pe_int (fun _ _ => rfl)) pa_nil)) (pv 1)))
      (pss_cons (ps_asg (pe_op op_fdivW (pe_ix ix_seq (pv 0) pe_int (fun _ _ => rfl)) (pv 1)) (pg_sub (pv 0) pe_int set_list))
      (pss_one (ps_ret (pv 2))))) pss_nil)
      (pss_cons (ps_asg (pe_op op_addZ (pe_ix ix_seq (pv 0) pe_int (fun _ _ => rfl)) pe_int) (pg_sub (pv 0) pe_int set_list))
      (pss_cons (ps_set (i := 3) sc_draw.nd rfl (Or.inl rfl) (pe_ix ix_seq (pv 0) pe_int (fun _ _ => rfl)))
      (pss_cons (ps_asg (pe_op op_mod (pe_callTy call_intZ (by rfl) T.f_int (by decide +kernel) (pa_cons (pe_op op_addZ (pe_op op_addZ (pe_op op_mul (pe_ix ix_seq (pv 0) pe_int (fun _ _ => rfl)) pe_int) (pe_op op_mul (pe_op op_mul pe_int (pv 3)) (pv 3))) pe_int) pa_nil)) pe_int) (pg_sub (pv 0) pe_int set_list))
      (pss_one (ps_ret (pe_op op_mod (pe_op op_mod (pe_callTy call_intZ (by rfl) T.f_int (by decide +kernel) (pa_cons (pe_op op_pow (pe_op op_fdivW (pe_ix ix_seq (pv 0) pe_int (fun _ _ => rfl)) pe_int) pe_int) pa_nil)) pe_int) (pv 1)))))))), ?_⟩
  exact fun ds M Φ Ξ h => y_body (N := ["_law_source", "_law_many", "_law_digit", "_law_turn"]) (np := 2) (s := b_draw K) ((k_seq (k_if (k_t (k_op ko_gt (k_op ko_ix k_var (k_c fun _ => rfl)) (k_c fun _ => rfl))) (k_seq (k_asg kg_nm (k_op ko_mod (k_cb kc_int (k_cons (k_op ko_ix k_var (k_c fun _ => rfl)) k_nil)) k_var))
      (k_seq (k_asg (kg_setL k_var (k_c fun _ => rfl)) (k_op ko_div (k_op ko_ix k_var (k_c fun _ => rfl)) k_var))
      (k_ret k_var))) k_nx)
      (k_seq (k_asg (kg_setL k_var (k_c fun _ => rfl)) (k_op ko_add (k_op ko_ix k_var (k_c fun _ => rfl)) (k_c fun _ => rfl)))
      (k_seq (k_asg kg_nm (k_op ko_ix k_var (k_c fun _ => rfl)))
      (k_seq (k_asg (kg_setL k_var (k_c fun _ => rfl)) (k_op ko_mod (k_cb kc_int (k_cons (k_op ko_add (k_op ko_add (k_op ko_mul (k_op ko_ix k_var (k_c fun _ => rfl)) (k_c fun _ => rfl)) (k_op ko_mul (k_op ko_mul (k_c fun _ => rfl) k_var) k_var)) (k_c fun _ => rfl)) k_nil)) (k_c fun _ => rfl)))
      (k_ret (k_op ko_mod (k_op ko_mod (k_cb kc_int (k_cons (k_op ko_pow (k_op ko_div (k_op ko_ix k_var (k_c fun _ => rfl)) (k_c fun _ => rfl)) (k_c fun _ => rfl)) k_nil)) (k_c fun _ => rfl)) k_var))))))) h
theorem ok_of (T : Fx K mg) : ∃ fd, Callee P w K mg base "_law_of" 5 ["_law_source", "_law_some"] (spR (y_of K)) (He.ga K "_law_of") fd := by
  obtain ⟨_, c_draw⟩ := ok_draw (P := P) (w := w) (base := base) T
  obtain ⟨fd, F⟩ := T.d_of
  refine ⟨fd, fnzD F sc_of (fun _ _ _ _ h => y_len h) fun cdv A outer s H E hr => ?_, T.g_of, F.kp, F.bindsN fun _ _ _ _ _ _ us hl => match us, hl with | [_, _], _ => rfl⟩
  have tk : Takes (cxOf (L2.CX P w) P w K mg base ["_law_source", "_law_some"] "_law_of" (defScope s_of) (He.ga K "_law_of") cdv A outer s H E) (WF E) := takes_of rfl rfl rfl rfl
  refine ⟨_, (pss_one (ps_ret (pe_ix ix_seq (pv 1) (pe_callSD (c_draw.ok.mono (by first | omega | decide | exact Nat.le_refl _)) hr rfl c_draw.mg c_draw.kp c_draw.bi .nil (fun σ => passAt tk σ) (pa_cons (pv 0) (pa_cons (pe_callB call_lenZ (by rfl) T.f_len (by decide +kernel) (pa_cons (pv 1) pa_nil)) pa_nil))) (fun _ _ => rfl)))), ?_⟩
  exact fun ds M Φ Ξ h => y_body (N := ["_law_source", "_law_some"]) (np := 2) (s := b_of K) ((k_ret (k_op ko_ix k_var (k_call (k_cons k_var (k_cons (k_cb kc_len (k_cons k_var k_nil)) k_nil)))))) h
theorem ok_own_deed (T : Fx K mg) : ∃ fd, Callee P w K mg base "_law_own_deed" 6 ["_law_source"] (spR (y_own_deed K)) (He.ga K "_law_own_deed") fd := by
  obtain ⟨_, c_of⟩ := ok_of (P := P) (w := w) (base := base) T
  obtain ⟨_, c_draw⟩ := ok_draw (P := P) (w := w) (base := base) T
  obtain ⟨fd, F⟩ := T.d_own_deed
  refine ⟨fd, fnzD F sc_own_deed (fun _ _ _ _ h => y_len h) fun cdv A outer s H E hr => ?_, T.g_own_deed, F.kp, F.bindsN fun _ _ _ _ _ _ us hl => match us, hl with | [_], _ => rfl⟩
  have tk : Takes (cxOf (L2.CX P w) P w K mg base ["_law_source", "_law_word", "_law_number", "_law_kind", "_law_many", "_law_values", "_law_turn"] "_law_own_deed" (defScope s_own_deed) (He.ga K "_law_own_deed") cdv A outer s H E) (WF E) := takes_of rfl rfl rfl rfl
  refine ⟨_, (pss_cons (ps_set (i := 1) sc_own_deed.nd rfl (Or.inl rfl) (pe_callSD (c_of.ok.mono (by first | omega | decide | exact Nat.le_refl _)) hr rfl c_of.mg c_of.kp c_of.bi .nil (fun σ => passAt tk σ) (pa_cons (pv 0) (pa_cons (pe_lst (pa_cons pe_str (pa_cons pe_str (pa_cons pe_str pa_nil)))) pa_nil))))
      (pss_cons (ps_set (i := 2) sc_own_deed.nd rfl (Or.inr rfl) (pe_callSD (c_of.ok.mono (by first | omega | decide | exact Nat.le_refl _)) hr rfl c_of.mg c_of.kp c_of.bi .nil (fun σ => passAt tk σ) (pa_cons (pv 0) (pa_cons (pe_lst (pa_cons pe_int (pa_cons pe_int (pa_cons (pe_callSD (c_draw.ok.mono (by first | omega | decide | exact Nat.le_refl _)) hr rfl c_draw.mg c_draw.kp c_draw.bi .nil (fun σ => passAt tk σ) (pa_cons (pv 0) (pa_cons (pe_op op_pow pe_int pe_int) pa_nil))) pa_nil)))) pa_nil))))
      (pss_cons (ps_set (i := 3) sc_own_deed.nd rfl (Or.inl rfl) (pe_callSD (c_draw.ok.mono (by first | omega | decide | exact Nat.le_refl _)) hr rfl c_draw.mg c_draw.kp c_draw.bi .nil (fun σ => passAt tk σ) (pa_cons (pv 0) (pa_cons pe_int pa_nil))))
      (pss_cons (ps_if (pt_cmpR (op_eqZ hr.units) (pv 3) pe_int (nomark _)) (pss_cons (ps_set (i := 4) sc_own_deed.nd rfl (Or.inl rfl) (pe_callSD (c_draw.ok.mono (by first | omega | decide | exact Nat.le_refl _)) hr rfl c_draw.mg c_draw.kp c_draw.bi .nil (fun σ => passAt tk σ) (pa_cons (pv 0) (pa_cons pe_int pa_nil))))
      (pss_cons (ps_setLc (i := 5) (own := [("_law_turn", 6)]) rfl sc_own_deed.nd rfl rfl (sw_true rfl rfl rfl (by decide +kernel)) (pi_range1 rfl T.f_range (pa_cons (pv 4) pa_nil)) (blkOk_by (own := [("_law_turn", 6)]) (N := ["_law_source", "_law_word", "_law_number", "_law_kind", "_law_many", "_law_values", "_law_turn"]) (sc := defScope s_own_deed) (by decide +kernel)) (fun _ _ _ _ _ => (pg_name (i := 6) sc_own_deed.nd rfl (Or.inl rfl))) (fun _ _ _ _ _ => pts_nil) (fun _ _ _ _ _ => (pe_callSD (c_of.ok.mono (by first | omega | decide | exact Nat.le_refl _)) hr rfl c_of.mg c_of.kp c_of.bi .nil (fun σ => passAt takes0 σ) (pa_cons (pv 0) (pa_cons (pe_lst (pa_cons pe_non (pa_cons (pv 2) (pa_cons pe_int (pa_cons pe_int pa_nil))))) pa_nil)))))
      (pss_one (ps_ret (pe_tup (pa_cons pe_str (pa_cons (pv 1) (pa_cons (pe_callTy call_tupZ (by rfl) T.f_tuple (by decide +kernel) (pa_cons (pv 5) pa_nil)) pa_nil)))))))) pss_nil)
      (pss_one (ps_ret (pe_tup (pa_cons (pe_ix ix_seq (pe_lst (pa_cons pe_str (pa_cons pe_str pa_nil))) (pe_op op_sub (pv 3) pe_int) (fun _ _ => rfl)) (pa_cons (pv 2) (pa_cons (pv 1) pa_nil)))))))))), ?_⟩
  exact fun ds M Φ Ξ h => y_body (N := ["_law_source", "_law_word", "_law_number", "_law_kind", "_law_many", "_law_values", "_law_turn"]) (np := 1) (s := b_own_deed K) ((k_seq (k_asg kg_nm (k_call (k_cons k_var (k_cons (k_lst (k_cons (k_c fun _ => rfl) (k_cons (k_c fun _ => rfl) (k_cons (k_c fun _ => rfl) k_nil)))) k_nil))))
      (k_seq (k_asg kg_nm (k_call (k_cons k_var (k_cons (k_lst (k_cons (k_c fun _ => rfl) (k_cons (k_c fun _ => rfl) (k_cons (k_call (k_cons k_var (k_cons (k_op ko_pow (k_c fun _ => rfl) (k_c fun _ => rfl)) k_nil))) k_nil)))) k_nil))))
      (k_seq (k_asg kg_nm (k_call (k_cons k_var (k_cons (k_c fun _ => rfl) k_nil))))
      (k_seq (k_if (k_t (k_op ko_eq k_var (k_c fun _ => rfl))) (k_seq (k_asg kg_nm (k_call (k_cons k_var (k_cons (k_c fun _ => rfl) k_nil))))
      (k_seq (k_asg kg_nm (k_lc (vs := [6]) (wp_name (by decide)) (ki_rng1 (k_cons k_var k_nil)) kg_nm k_yes (k_call (k_cons k_var (k_cons (k_lst (k_cons (k_c fun _ => rfl) (k_cons k_var (k_cons (k_c fun _ => rfl) (k_cons (k_c fun _ => rfl) k_nil))))) k_nil)))))
      (k_ret (k_tup (k_cons (k_c fun _ => rfl) (k_cons k_var (k_cons (k_cb kc_tup (k_cons k_var k_nil)) k_nil))))))) k_nx)
      (k_ret (k_tup (k_cons (k_op ko_ix (k_lst (k_cons (k_c fun _ => rfl) (k_cons (k_c fun _ => rfl) k_nil))) (k_op ko_sub k_var (k_c fun _ => rfl))) (k_cons k_var (k_cons k_var k_nil)))))))))) h
theorem ok_other (T : Fx K mg) : ∃ fd, Callee P w K mg base "_law_other" 7 ["_law_source", "_law_some"] (spR (y_other K)) (He.ga K "_law_other") fd := by
  obtain ⟨_, c_draw⟩ := ok_draw (P := P) (w := w) (base := base) T
  obtain ⟨_, c_own_deed⟩ := ok_own_deed (P := P) (w := w) (base := base) T
  obtain ⟨fd, F⟩ := T.d_other
  refine ⟨fd, fnzD F sc_other (fun _ _ _ _ h => y_len h) fun cdv A outer s H E hr => ?_, T.g_other, F.kp, F.bindsN fun _ _ _ _ _ _ us hl => match us, hl with | [_, _], _ => rfl⟩
  have tk : Takes (cxOf (L2.CX P w) P w K mg base ["_law_source", "_law_some", "_law_kind", "_law_at", "_law_turn"] "_law_other" (defScope s_other) (He.ga K "_law_other") cdv A outer s H E) (WF E) := takes_of rfl rfl rfl rfl
  refine ⟨_, (pss_cons (ps_set (i := 2) sc_other.nd rfl (Or.inl rfl) (pe_callSD (c_draw.ok.mono (by first | omega | decide | exact Nat.le_refl _)) hr rfl c_draw.mg c_draw.kp c_draw.bi .nil (fun σ => passAt tk σ) (pa_cons (pv 0) (pa_cons pe_int pa_nil))))
      (pss_cons (ps_if (pt_cmpR (op_eqZ hr.units) (pv 2) pe_int (nomark _)) (pss_one (ps_ret (Z.pe_lstM pa_nil))) pss_nil)
      (pss_cons (ps_if (pt_cmpR (op_eqZ hr.units) (pv 2) pe_int (nomark _)) (pss_one (ps_ret (pe_slice sl_Z (pe_callTy call_lstZ (by rfl) T.f_list (by decide +kernel) (pa_cons (pv 1) pa_nil)) po_none (po_some (pe_un un_neg pe_int))))) pss_nil)
      (pss_cons (ps_if (pt_cmpR (op_eqZ hr.units) (pv 2) pe_int (nomark _)) (pss_one (ps_ret (RT.pe_lstRev rfl (by rfl) T.f_list (by rfl) T.f_reversed (pe_callTy call_lstZ (by rfl) T.f_list (by decide +kernel) (pa_cons (pv 1) pa_nil))))) pss_nil)
      (pss_cons (ps_if (pt_cmpR (op_eqZ hr.units) (pv 2) pe_int (nomark _)) (pss_one (ps_ret (Z.pe_lcM (own := [("_law_turn", 4)]) rfl sc_other.nd (pi_range1 rfl T.f_range (pa_cons (pe_callSD (c_draw.ok.mono (by first | omega | decide | exact Nat.le_refl _)) hr rfl c_draw.mg c_draw.kp c_draw.bi .nil (fun σ => passAt tk σ) (pa_cons (pv 0) (pa_cons pe_int pa_nil))) pa_nil)) (blkOk_by (own := [("_law_turn", 4)]) (N := ["_law_source", "_law_some", "_law_kind", "_law_at", "_law_turn"]) (sc := defScope s_other) (by decide +kernel)) (fun _ _ _ _ _ => (pg_name (i := 4) sc_other.nd rfl (Or.inl rfl))) (fun _ _ _ _ _ => pts_nil) (fun _ _ _ _ _ => (pe_callSD (c_own_deed.ok.mono (by first | omega | decide | exact Nat.le_refl _)) hr rfl c_own_deed.mg c_own_deed.kp c_own_deed.bi .nil (fun σ => passAt takes0 σ) (pa_cons (pv 0) pa_nil)))))) pss_nil)
      (pss_cons (ps_if (PW.pt (pw_and (pt_cmpR (op_eqZ hr.units) (pv 2) pe_int (nomark _)) (pw_and1 (pt_cmpR (op_neZ hr.units) (pv 1) (pe_lst pa_nil) (nomark _))))) (pss_cons (ps_set (i := 3) sc_other.nd rfl (Or.inl rfl) (pe_callSD (c_draw.ok.mono (by first | omega | decide | exact Nat.le_refl _)) hr rfl c_draw.mg c_draw.kp c_draw.bi .nil (fun σ => passAt tk σ) (pa_cons (pv 0) (pa_cons (pe_callB call_lenZ (by rfl) T.f_len (by decide +kernel) (pa_cons (pv 1) pa_nil)) pa_nil))))
      (pss_one (ps_ret (pe_op op_addZ (pe_op op_addZ (pe_slice sl_Z (pv 1) po_none (po_some (pv 3))) (pe_lst (pa_cons (pe_callSD (c_own_deed.ok.mono (by first | omega | decide | exact Nat.le_refl _)) hr rfl c_own_deed.mg c_own_deed.kp c_own_deed.bi .nil (fun σ => passAt tk σ) (pa_cons (pv 0) pa_nil)) pa_nil))) (pe_slice sl_Z (pv 1) (po_some (pe_op op_addZ (pv 3) pe_int)) po_none))))) pss_nil)
      (pss_one (ps_ret (pe_callTy call_lstMZ (by rfl) T.f_list (by decide +kernel) (pa_cons (pv 1) pa_nil)))))))))), ?_⟩
  exact fun ds M Φ Ξ h => y_body (N := ["_law_source", "_law_some", "_law_kind", "_law_at", "_law_turn"]) (np := 2) (s := b_other K) ((k_seq (k_asg kg_nm (k_call (k_cons k_var (k_cons (k_c fun _ => rfl) k_nil))))
      (k_seq (k_if (k_t (k_op ko_eq k_var (k_c fun _ => rfl))) (k_ret (k_lstM k_nil)) k_nx)
      (k_seq (k_if (k_t (k_op ko_eq k_var (k_c fun _ => rfl))) (k_ret (k_slM (k_cb kc_lst (k_cons k_var k_nil)) k_pn (k_ps (k_un ku_neg (k_c fun _ => rfl))))) k_nx)
      (k_seq (k_if (k_t (k_op ko_eq k_var (k_c fun _ => rfl))) (k_ret (k_lrevM (k_cb kc_lst (k_cons k_var k_nil)))) k_nx)
      (k_seq (k_if (k_t (k_op ko_eq k_var (k_c fun _ => rfl))) (k_ret (k_lcMG (vs := [4]) (wp_name (by decide)) (ki_rng1 (k_cons (k_call (k_cons k_var (k_cons (k_c fun _ => rfl) k_nil))) k_nil)) kg_nm k_yes (k_call (k_cons k_var k_nil)))) k_nx)
      (k_seq (k_if (k_tand (k_t (k_op ko_eq k_var (k_c fun _ => rfl))) (k_t (k_op ko_ne k_var (k_lst k_nil)))) (k_seq (k_asg kg_nm (k_call (k_cons k_var (k_cons (k_cb kc_len (k_cons k_var k_nil)) k_nil))))
      (k_ret (k_opR ko_addM (k_op ko_add (k_sl k_var k_pn (k_ps k_var)) (k_lst (k_cons (k_call (k_cons k_var k_nil)) k_nil))) (k_sl k_var (k_ps (k_op ko_add k_var (k_c fun _ => rfl))) k_pn)))) k_nx)
      (k_ret (k_cb kc_lstM (k_cons k_var k_nil)))))))))) h
theorem ok_Run_init (T : Fx K mg) : ∃ fd, SC P w K mg base 4 ["self", "deeds", "once", "anew"] (spR (y_Run_init K)) (He.ma K (He.ga K "Run") "__init__") fd ∧ FnS K "__init__" "Run.__init__" s_Run_init (He.ma K (He.ga K "Run") "__init__") fd := by
  obtain ⟨fd, F⟩ := T.d_Run_init
  refine ⟨fd, ⟨fnzD F sc_Run_init (fun _ _ _ _ h => y_len h) fun cdv A outer s H E hr => ?_, F.bindsN fun _ _ _ _ _ _ us hl => match us, hl with | [_, _, _, _], _ => rfl⟩, F⟩
  have tk : Takes (cxOf (L2.CX P w) P w K mg base ["self", "deeds", "once", "anew", "answers", "word", "is_so"] "Run.__init__" (defScope s_Run_init) (He.ma K (He.ga K "Run") "__init__") cdv A outer s H E) (WF E) := takes_of rfl rfl rfl rfl
  refine ⟨_, (pss_cons (ps_fld (pv 0) (pe_callTy call_tupZ (by rfl) T.f_tuple (by decide +kernel) (pa_cons (pv 1) pa_nil)) rfl)
      (pss_cons (ps_fld (pv 0) (pe_callTy call_tupZ (by rfl) T.f_tuple (by decide +kernel) (pa_cons (pv 2) pa_nil)) rfl)
      (pss_cons (ps_fld (pv 0) (pe_callTy call_tupZ (by rfl) T.f_tuple (by decide +kernel) (pa_cons (pv 3) pa_nil)) rfl)
      (pss_cons (ps_set (i := 4) sc_Run_init.nd rfl (Or.inl rfl) (pe_tup (pa_cons (pe_tup (pa_cons pe_str (pa_cons (pe_cmpR (op_eqZ hr.units) (pe_fld (pv 0) rfl) (pe_fld (pv 0) rfl) (nomark _)) pa_nil))) (pa_cons (pe_tup (pa_cons pe_str (pa_cons (pe_cmpR (op_eqZ hr.units) (pe_fld (pv 0) rfl) (pe_fld (pv 0) rfl) (nomark _)) pa_nil))) (pa_cons (pe_tup (pa_cons pe_str (pa_cons (pe_cmpR (op_eqZ hr.units) (pe_fld (pv 0) rfl) (pe_tup pa_nil) (nomark _)) pa_nil))) pa_nil)))))
      (pss_one (ps_fld (pv 0) (pe_callTy call_tupZ (by rfl) T.f_tuple (by decide +kernel) (pa_cons (pe_lc (own := [("word", 5), ("is_so", 6)]) rfl sc_Run_init.nd (pi_any (pv 4)) (blkOk_by (own := [("word", 5), ("is_so", 6)]) (N := ["self", "deeds", "once", "anew", "answers", "word", "is_so"]) (sc := defScope s_Run_init) (by decide +kernel)) (fun _ _ _ _ _ => (show PG _ _ (gTup K 2 _) from pg_tup rfl (pgs_cons (pg_name (i := 5) sc_Run_init.nd rfl (Or.inl rfl)) (pgs_cons (pg_name (i := 6) sc_Run_init.nd rfl (Or.inl rfl)) pgs_nil)))) (fun _ _ _ _ _ => (pts_one (pt_val (pv 6)))) (fun _ _ _ _ _ => (pv 5))) pa_nil)) rfl)))))), ?_⟩
  exact fun ds M Φ Ξ h => y_body (N := ["self", "deeds", "once", "anew", "answers", "word", "is_so"]) (np := 4) (s := b_Run_init K) ((k_seq (k_setF T.cl_Run T.no_Run_deeds k_var (k_cb kc_tup (k_cons k_var k_nil)))
      (k_seq (k_setF T.cl_Run T.no_Run_once k_var (k_cb kc_tup (k_cons k_var k_nil)))
      (k_seq (k_setF T.cl_Run T.no_Run_anew k_var (k_cb kc_tup (k_cons k_var k_nil)))
      (k_seq (k_asg kg_nm (k_tup (k_cons (k_tup (k_cons (k_c fun _ => rfl) (k_cons (k_op ko_eq (k_fld T.cl_Run T.no_Run_deeds k_var) (k_fld T.cl_Run T.no_Run_once k_var)) k_nil))) (k_cons (k_tup (k_cons (k_c fun _ => rfl) (k_cons (k_op ko_eq (k_fld T.cl_Run T.no_Run_deeds k_var) (k_fld T.cl_Run T.no_Run_anew k_var)) k_nil))) (k_cons (k_tup (k_cons (k_c fun _ => rfl) (k_cons (k_op ko_eq (k_fld T.cl_Run T.no_Run_deeds k_var) (k_tup k_nil)) k_nil))) k_nil)))))
      (k_setF T.cl_Run T.no_Run_classes k_var (k_cb kc_tup (k_cons (k_lc (vs := [5, 6]) (wp_tup (wp_consN (by decide) (wp_consN (by decide) wp_nil))) (ki_any k_var) (kg_tup (kg_cons kg_nm (kg_cons kg_nm kg_nil))) (k_tb k_var) k_var) k_nil)))))))) h
theorem ok_Run_is_mixed (T : Fx K mg) : ∃ fd, SC P w K mg base 4 ["self"] (spR (y_Run_is_mixed K)) (He5.wf K (He.ga K "Run") "property" "is_mixed") fd := by
  obtain ⟨fd, F⟩ := T.d_Run_is_mixed
  refine ⟨fd, fnzD F sc_Run_is_mixed (fun _ _ _ _ h => y_len h) fun cdv A outer s H E hr => ?_, F.bindsN fun _ _ _ _ _ _ us hl => match us, hl with | [_], _ => rfl⟩
  have tk : Takes (cxOf (L2.CX P w) P w K mg base ["self"] "Run.is_mixed" (defScope s_Run_is_mixed) (He5.wf K (He.ga K "Run") "property" "is_mixed") cdv A outer s H E) (WF E) := takes_of rfl rfl rfl rfl
  refine ⟨_, (pss_one (ps_ret (pe_cmpR (op_eqZ hr.units) (pe_fld (pv 0) rfl) (pe_tup pa_nil) (nomark _)))), ?_⟩
  exact fun ds M Φ Ξ h => y_body (N := ["self"]) (np := 1) (s := b_Run_is_mixed K) ((k_ret (k_op ko_eq (k_fld T.cl_Run T.no_Run_classes k_var) (k_tup k_nil)))) h
theorem ok_Run_eq (T : Fx K mg) : MC P w K mg base 4 (spR (y_Run_eq K)) (He.ma K (He.ga K "Run") "__eq__") := by
  obtain ⟨fd, F⟩ := T.d_Run_eq
  refine ⟨fnr_of (fnzD F sc_Run_eq (fun _ _ _ _ h => y_len h) fun cdv A outer s H E hr => ?_) (F.bindsN fun _ _ _ _ _ _ us hl => match us, hl with | [_, _], _ => rfl)⟩
  have tk : Takes (cxOf (L2.CX P w) P w K mg base ["self", "other"] "Run.__eq__" (defScope s_Run_eq) (He.ma K (He.ga K "Run") "__eq__") cdv A outer s H E) (WF E) := takes_of rfl rfl rfl rfl
  refine ⟨_, (pss_cons (ps_if (pt_not (pt_val (pe_callB call_isi (by rfl) T.f_isinstance (by decide +kernel) (pa_cons (pv 1) (pa_cons (pe_glob (v := .ref (He.ga K "Run")) rfl T.g_Run rfl) pa_nil))))) (pss_one (ps_ret pe_bl)) pss_nil)
      (pss_one (ps_ret (pe_cmpR (op_eqZ hr.units) (pe_tup (pa_cons (pe_fld (pv 0) rfl) (pa_cons (pe_fld (pv 0) rfl) (pa_cons (pe_fld (pv 0) rfl) pa_nil)))) (pe_tup (pa_cons (pe_fld (pv 1) rfl) (pa_cons (pe_fld (pv 1) rfl) (pa_cons (pe_fld (pv 1) rfl) pa_nil)))) (nomark _))))), ?_⟩
  exact fun ds M Φ Ξ h => y_body (N := ["self", "other"]) (np := 2) (s := b_Run_eq K) ((k_seq (k_if (k_tnot (k_tb (k_cb (kc_isiO T.cl_Run T.ins_Run T.kit_Run) (k_cons k_var (k_cons (k_c fun _ => rfl) k_nil))))) (k_ret (k_c fun _ => rfl)) k_nx)
      (k_ret (k_op ko_eq (k_tup (k_cons (k_fld T.cl_Run T.no_Run_deeds k_var) (k_cons (k_fld T.cl_Run T.no_Run_once k_var) (k_cons (k_fld T.cl_Run T.no_Run_anew k_var) k_nil)))) (k_tup (k_cons (k_fld T.cl_Run T.no_Run_deeds k_var) (k_cons (k_fld T.cl_Run T.no_Run_once k_var) (k_cons (k_fld T.cl_Run T.no_Run_anew k_var) k_nil)))))))) h
theorem ok_right (T : Fx K mg) : ∃ fd, CalleeG P w K mg base "_law_right" 8 ["_law_source"] (spR (y_right K)) (He.ga K "_law_right") fd := by
  obtain ⟨_, c_draw⟩ := ok_draw (P := P) (w := w) (base := base) T
  obtain ⟨_, c_own_deed⟩ := ok_own_deed (P := P) (w := w) (base := base) T
  obtain ⟨_, c_other⟩ := ok_other (P := P) (w := w) (base := base) T
  obtain ⟨_, c_Run_init, F_Run_init⟩ := ok_Run_init (P := P) (w := w) (base := base) T
  obtain ⟨_, c_Run_is_mixed⟩ := ok_Run_is_mixed (P := P) (w := w) (base := base) T
  have c_Run_eq := ok_Run_eq (P := P) (w := w) (base := base) T
  obtain ⟨fd, F⟩ := T.d_right
  refine ⟨fd, fnzGd F sc_right (fun _ _ _ _ h => y_len h) fun cdv A outer s H E hG hr => ?_, T.g_right, F.kp, F.bindsN fun _ _ _ _ _ _ us hl => match us, hl with | [_], _ => rfl⟩
  have tk : Takes (cxOf (L2.CX P w) P w K mg base ["_law_source", "_law_one", "_law_two", "_law_three", "_law_made", "_law_kept", "_law_same", "_law_changed", "_law_due", "_law_place", "_law_parts", "_law_turn"] "_law_right" (defScope s_right) (He.ga K "_law_right") cdv A outer s H E) (WF E) := takes_of rfl rfl rfl rfl
  refine ⟨_, (pss_cons (Z.ps_setLcM (i := 1) (own := [("_law_turn", 11)]) rfl sc_right.nd rfl rfl (sw_true rfl rfl rfl (by decide +kernel)) (pi_range1 rfl T.f_range (pa_cons (pe_callSD (c_draw.ok.mono (by first | omega | decide | exact Nat.le_refl _)) hr rfl c_draw.mg c_draw.kp c_draw.bi .nil (fun σ => passAt tk σ) (pa_cons (pv 0) (pa_cons pe_int pa_nil))) pa_nil)) (blkOk_by (own := [("_law_turn", 11)]) (N := ["_law_source", "_law_one", "_law_two", "_law_three", "_law_made", "_law_kept", "_law_same", "_law_changed", "_law_due", "_law_place", "_law_parts", "_law_turn"]) (sc := defScope s_right) (by decide +kernel)) (fun _ _ _ _ _ => (pg_name (i := 11) sc_right.nd rfl (Or.inl rfl))) (fun _ _ _ _ _ => pts_nil) (fun _ _ _ _ _ => (pe_callSD (c_own_deed.ok.mono (by first | omega | decide | exact Nat.le_refl _)) hr rfl c_own_deed.mg c_own_deed.kp c_own_deed.bi .nil (fun σ => passAt takes0 σ) (pa_cons (pv 0) pa_nil))))
      (pss_cons (ps_par (i := 2) (j := 3) rfl sc_right.nd rfl rfl (by decide) rfl rfl (pa_cons (pe_callSD (c_other.ok.mono (by first | omega | decide | exact Nat.le_refl _)) hr rfl c_other.mg c_other.kp c_other.bi .nil (fun σ => passAt tk σ) (pa_cons (pv 0) (pa_cons (pv 1) pa_nil))) (pa_cons (pe_callSD (c_other.ok.mono (by first | omega | decide | exact Nat.le_refl _)) hr rfl c_other.mg c_other.kp c_other.bi .nil (fun σ => passAt tk σ) (pa_cons (pv 0) (pa_cons (pv 1) pa_nil))) pa_nil)) (by rfl))
      (pss_cons (ps_par (i := 4) (j := 5) rfl sc_right.nd rfl rfl (by decide) rfl rfl (pa_cons (pe_make T.m_Run (c_Run_init.ok.mono (by first | omega | decide | exact Nat.le_refl _)) hr rfl T.g_Run c_Run_init.bi .nil (passes_call tk (fun _ _ _ _ z => z)) (pa_cons (pv 1) (pa_cons (pv 2) (pa_cons (pv 3) pa_nil)))) (pa_cons (pe_lst (pa_cons (pe_callTy call_tupZ (by rfl) T.f_tuple (by decide +kernel) (pa_cons (pv 1) pa_nil)) (pa_cons (pe_callTy call_tupZ (by rfl) T.f_tuple (by decide +kernel) (pa_cons (pv 2) pa_nil)) (pa_cons (pe_callTy call_tupZ (by rfl) T.f_tuple (by decide +kernel) (pa_cons (pv 3) pa_nil)) pa_nil)))) pa_nil)) (by rfl))
      (pss_cons (ps_set (i := 6) sc_right.nd rfl (Or.inl rfl) (pe_makeK0 T.m_Run (c_Run_init.ok.mono (by first | omega | decide | exact Nat.le_refl _)) hr rfl T.g_Run (FunD.kbindsN F_Run_init 1 ["anew", "deeds", "once"] [1, 2, 0] fun _ _ _ _ _ _ us ws h1 h2 => match us, h1, ws, h2 with | [_], _, [_, _, _], _ => rfl) (passes_call tk (fun _ _ _ _ z => z)) (pk_cons (pe_callTy call_tupZ (by rfl) T.f_tuple (by decide +kernel) (pa_cons (pv 3) pa_nil)) (pk_cons (pe_callTy call_tupZ (by rfl) T.f_tuple (by decide +kernel) (pa_cons (pv 1) pa_nil)) (pk_cons (pe_callTy call_lstZ (by rfl) T.f_list (by decide +kernel) (pa_cons (pv 2) pa_nil)) pk_nil)))))
      (pss_cons (ps_set (i := 7) sc_right.nd rfl (Or.inl rfl) (pe_callSD (c_other.ok.mono (by first | omega | decide | exact Nat.le_refl _)) hr rfl c_other.mg c_other.kp c_other.bi .nil (fun σ => passAt tk σ) (pa_cons (pv 0) (pa_cons (pv 1) pa_nil))))
      (pss_cons (ps_expr (pe_bm PySem.F.plainAttrs_list PySem.F.slot_list_append PySem.F.type_list_append mt_append (pv 1) (pa_cons (pe_tup (pa_cons pe_str (pa_cons pe_int (pa_cons pe_str pa_nil)))) pa_nil)))
      (pss_cons (ps_expr (pe_bm0 PySem.F.plainAttrs_list PySem.F.slot_list_clear PySem.F.type_list_clear mt_clear (pv 2)))
      (pss_cons (ps_expr (pe_bm PySem.F.plainAttrs_list PySem.F.slot_list_insert PySem.F.type_list_insert mt_insZ (pv 3) (pa_cons pe_int (pa_cons (pe_tup (pa_cons pe_str (pa_cons pe_str (pa_cons (pe_tup pa_nil) pa_nil)))) pa_nil))))
      (pss_cons (ps_if (pt_cmpR (op_neZ hr.units) (pe_callB (cr_repr hG (room66 hr)) (by rfl) T.f_repr (by decide +kernel) (pa_cons (pe_lst (pa_cons (pe_fld (pv 4) rfl) (pa_cons (pe_fld (pv 4) rfl) (pa_cons (pe_fld (pv 4) rfl) pa_nil)))) pa_nil)) (pe_callB (cr_repr hG (room66 hr)) (by rfl) T.f_repr (by decide +kernel) (pa_cons (pv 5) pa_nil)) (nomark _)) (pss_one (ps_ret pe_bl)) pss_nil)
      (pss_cons (ps_set (i := 8) sc_right.nd rfl (Or.inl rfl) (pe_op op_addZ (pe_op op_rep (pe_lst (pa_cons pe_str pa_nil)) (pe_callTy call_intZ (by rfl) T.f_int (by decide +kernel) (pa_cons (pe_cmpR (op_eqZ hr.units) (pe_ix ix_seq (pv 5) pe_int (fun _ _ => rfl)) (pe_ix ix_seq (pv 5) pe_int (fun _ _ => rfl)) (nomark _)) pa_nil))) (pe_op op_rep (pe_lst (pa_cons pe_str pa_nil)) (pe_callTy call_intZ (by rfl) T.f_int (by decide +kernel) (pa_cons (pe_cmpR (op_eqZ hr.units) (pe_ix ix_seq (pv 5) pe_int (fun _ _ => rfl)) (pe_ix ix_seq (pv 5) pe_int (fun _ _ => rfl)) (nomark _)) pa_nil)))))
      (pss_cons (ps_set (i := 8) sc_right.nd rfl (Or.inl rfl) (pe_op op_addZ (pv 8) (pe_op op_rep (pe_lst (pa_cons pe_str pa_nil)) (pe_callTy call_intZ (by rfl) T.f_int (by decide +kernel) (pa_cons (pe_cmpR (op_eqZ hr.units) (pe_ix ix_seq (pv 5) pe_int (fun _ _ => rfl)) (pe_tup pa_nil) (nomark _)) pa_nil)))))
      (pss_cons (ps_if (PW.pt (pw_or (pt_cmpR (op_neZ hr.units) (pe_callB (cr_repr hG (room66 hr)) (by rfl) T.f_repr (by decide +kernel) (pa_cons (pe_fld (pv 4) rfl) pa_nil)) (pe_callB (cr_repr hG (room66 hr)) (by rfl) T.f_repr (by decide +kernel) (pa_cons (pe_callTy call_tupZ (by rfl) T.f_tuple (by decide +kernel) (pa_cons (pv 8) pa_nil)) pa_nil)) (nomark _)) (pw_or1 (pt_cmpR (op_neZ hr.units) (pe_callB (cr_repr hG (room66 hr)) (by rfl) T.f_repr (by decide +kernel) (pa_cons (pe_prop (pv 4) T.cl_Run T.pr_Run_is_mixed c_Run_is_mixed.ok (hr.mono (by decide)) c_Run_is_mixed.bi .nil pass_nox rfl) pa_nil)) (pe_callB (cr_repr hG (room66 hr)) (by rfl) T.f_repr (by decide +kernel) (pa_cons (pe_cmpR (op_eqZ hr.units) (pv 8) (pe_lst pa_nil) (nomark _)) pa_nil)) (nomark _))))) (pss_one (ps_ret pe_bl)) pss_nil)
      (pss_cons (ps_if (PW.pt (pw_or (pt_not (pt_cmpR (op_eqO T.me_Run_eq.at_ T.me_Run_eq.fn c_Run_eq.ok (hr.mono (by decide)) (passes_call (E := E0) tk (fun _ _ _ _ z => z.elim))) (pv 4) (pv 6) (nomark _))) (pw_or (pt_cmpR (op_neO T.nb_Run T.me_Run_eq.at_ T.me_Run_eq.fn c_Run_eq.ok (hr.mono (by decide)) (Nat.lt_of_le_of_lt (Nat.add_le_add_left (by decide : 1 ≤ 64) _) hr.units) (passes_call (E := E0) tk (fun _ _ _ _ z => z.elim))) (pv 4) (pv 6) (nomark _)) (pw_or (pt_cmpR ((op_eqO T.me_Run_eq.at_ T.me_Run_eq.fn c_Run_eq.ok (hr.mono (by decide)) (passes_call (E := E0) tk (fun _ _ _ _ z => z.elim))).or (op_eqOB T.me_Run_eq.at_ T.me_Run_eq.fn c_Run_eq.ok (hr.mono (by decide)) (passes_call (E := E0) tk (fun _ _ _ _ z => z.elim)))) (pv 4) (pv 5) (nomark _)) (pw_or1 (pt_cmpR ((op_eqO T.me_Run_eq.at_ T.me_Run_eq.fn c_Run_eq.ok (hr.mono (by decide)) (passes_call (E := E0) tk (fun _ _ _ _ z => z.elim))).or (op_eqOB T.me_Run_eq.at_ T.me_Run_eq.fn c_Run_eq.ok (hr.mono (by decide)) (passes_call (E := E0) tk (fun _ _ _ _ z => z.elim)))) (pv 4) pe_int (nomark _))))))) (pss_one (ps_ret pe_bl)) pss_nil)
      (pss_cons (ps_for (passes_of rfl) rfl (pi_range1 rfl T.f_range (pa_cons pe_int pa_nil)) (pg_name (i := 9) sc_right.nd rfl (Or.inl rfl))
      (pss_cons (ps_set (i := 10) sc_right.nd rfl (Or.inl rfl) (pe_callTy call_lstMZ (by rfl) T.f_list (by decide +kernel) (pa_cons (pv 5) pa_nil)))
      (pss_cons (ps_asg (pe_callTy call_tupZ (by rfl) T.f_tuple (by decide +kernel) (pa_cons (pv 7) pa_nil)) (pg_sub (pv 10) (pv 9) set_list))
      (pss_one (ps_if (pt_cmpR (op_neZ hr.units) (pe_cmpR (op_eqO T.me_Run_eq.at_ T.me_Run_eq.fn c_Run_eq.ok (hr.mono (by decide)) (passes_call (E := E0) tk (fun _ _ _ _ z => z.elim))) (pv 4) (pe_make T.m_Run (c_Run_init.ok.mono (by first | omega | decide | exact Nat.le_refl _)) hr rfl T.g_Run c_Run_init.bi .nil (passes_call tk (fun _ _ _ _ z => z)) (pa_cons (pe_ix ix_seq (pv 10) pe_int (fun _ _ => rfl)) (pa_cons (pe_ix ix_seq (pv 10) pe_int (fun _ _ => rfl)) (pa_cons (pe_ix ix_seq (pv 10) pe_int (fun _ _ => rfl)) pa_nil)))) (nomark _)) (pe_cmpR (op_eqZ hr.units) (pv 10) (pv 5) (nomark _)) (nomark _)) (pss_one (ps_ret pe_bl)) pss_nil)))))
      (pss_cons (ps_if (pt_cmpR (op_neZ hr.units) (pe_callB (cr_repr hG (room66 hr)) (by rfl) T.f_repr (by decide +kernel) (pa_cons (pe_fld (pv 4) rfl) pa_nil)) (pe_callB (cr_repr hG (room66 hr)) (by rfl) T.f_repr (by decide +kernel) (pa_cons (pe_callTy call_tupZ (by rfl) T.f_tuple (by decide +kernel) (pa_cons (pv 8) pa_nil)) pa_nil)) (nomark _)) (pss_one (ps_ret pe_bl)) pss_nil)
      (pss_one (ps_ret (pe_cmpR (op_eqZ hr.units) (pe_callB (cr_repr hG (room66 hr)) (by rfl) T.f_repr (by decide +kernel) (pa_cons (pe_lst (pa_cons (pe_fld (pv 4) rfl) (pa_cons (pe_fld (pv 4) rfl) (pa_cons (pe_fld (pv 4) rfl) pa_nil)))) pa_nil)) (pe_callB (cr_repr hG (room66 hr)) (by rfl) T.f_repr (by decide +kernel) (pa_cons (pv 5) pa_nil)) (nomark _))))))))))))))))))), ?_⟩
  exact fun ds M Φ Ξ h => y_body (N := ["_law_source", "_law_one", "_law_two", "_law_three", "_law_made", "_law_kept", "_law_same", "_law_changed", "_law_due", "_law_place", "_law_parts", "_law_turn"]) (np := 1) (s := b_right K) ((k_seq (k_asg kg_nm (k_lcMG (vs := [11]) (wp_name (by decide)) (ki_rng1 (k_cons (k_call (k_cons k_var (k_cons (k_c fun _ => rfl) k_nil))) k_nil)) kg_nm k_yes (k_call (k_cons k_var k_nil))))
      (k_seq (k_par (k_cons (k_call (k_cons k_var (k_cons k_var k_nil))) (k_cons (k_call (k_cons k_var (k_cons k_var k_nil))) k_nil)))
      (k_seq (k_par (k_cons (k_make he_WF (fun _ => rfl) (k_cons k_var (k_cons k_var (k_cons k_var k_nil)))) (k_cons (k_lst (k_cons (k_cb kc_tup (k_cons k_var k_nil)) (k_cons (k_cb kc_tup (k_cons k_var k_nil)) (k_cons (k_cb kc_tup (k_cons k_var k_nil)) k_nil)))) k_nil)))
      (k_seq (k_asg kg_nm (k_makeK0 he_WF (k_cons (k_cb kc_tup (k_cons k_var k_nil)) (k_cons (k_cb kc_tup (k_cons k_var k_nil)) (k_cons (k_cb kc_lst (k_cons k_var k_nil)) k_nil)))))
      (k_seq (k_asg kg_nm (k_call (k_cons k_var (k_cons k_var k_nil))))
      (k_seq (k_drop (k_bm km_append k_var (k_cons (k_tup (k_cons (k_c fun _ => rfl) (k_cons (k_c fun _ => rfl) (k_cons (k_c fun _ => rfl) k_nil)))) k_nil)))
      (k_seq (k_drop (k_bm0 km_clear k_var))
      (k_seq (k_drop (k_bm km_insert k_var (k_cons (k_c fun _ => rfl) (k_cons (k_tup (k_cons (k_c fun _ => rfl) (k_cons (k_c fun _ => rfl) (k_cons (k_tup k_nil) k_nil)))) k_nil))))
      (k_seq (k_if (k_t (k_op ko_ne (k_cb kc_repr (k_cons (k_lst (k_cons (k_fld T.cl_Run T.no_Run_deeds k_var) (k_cons (k_fld T.cl_Run T.no_Run_once k_var) (k_cons (k_fld T.cl_Run T.no_Run_anew k_var) k_nil)))) k_nil)) (k_cb kc_repr (k_cons k_var k_nil)))) (k_ret (k_c fun _ => rfl)) k_nx)
      (k_seq (k_asg kg_nm (k_op ko_add (k_op ko_mulL (k_lst (k_cons (k_c fun _ => rfl) k_nil)) (k_cb kc_int (k_cons (k_op ko_eq (k_op ko_ix k_var (k_c fun _ => rfl)) (k_op ko_ix k_var (k_c fun _ => rfl))) k_nil))) (k_op ko_mulL (k_lst (k_cons (k_c fun _ => rfl) k_nil)) (k_cb kc_int (k_cons (k_op ko_eq (k_op ko_ix k_var (k_c fun _ => rfl)) (k_op ko_ix k_var (k_c fun _ => rfl))) k_nil)))))
      (k_seq (k_asg kg_nm (k_op ko_add k_var (k_op ko_mulL (k_lst (k_cons (k_c fun _ => rfl) k_nil)) (k_cb kc_int (k_cons (k_op ko_eq (k_op ko_ix k_var (k_c fun _ => rfl)) (k_tup k_nil)) k_nil)))))
      (k_seq (k_if (k_tor (k_t (k_op ko_ne (k_cb kc_repr (k_cons (k_fld T.cl_Run T.no_Run_classes k_var) k_nil)) (k_cb kc_repr (k_cons (k_cb kc_tup (k_cons k_var k_nil)) k_nil)))) (k_t (k_op ko_ne (k_cb kc_repr (k_cons (k_prop k_var) k_nil)) (k_cb kc_repr (k_cons (k_op ko_eq k_var (k_lst k_nil)) k_nil))))) (k_ret (k_c fun _ => rfl)) k_nx)
      (k_seq (k_if (k_tor (k_tnot (k_t (k_opR (ko_eqO T.nf_Run_Run) k_var k_var))) (k_tor (k_t (k_opR (ko_neO T.nf_Run_Run) k_var k_var)) (k_tor (k_t (k_opR (ko_eqX (fun B hB => nomatch hB) T.eb_Run) k_var k_var)) (k_t (k_opR (ko_eqX (fun B hB => nomatch hB) T.eb_Run) k_var (k_c fun _ => rfl)))))) (k_ret (k_c fun _ => rfl)) k_nx)
      (k_seq (k_for (ki_rng1 (k_cons (k_c fun _ => rfl) k_nil)) kg_nm
      (k_seq (k_asg kg_nm (k_cb kc_lstM (k_cons k_var k_nil)))
      (k_seq (k_asg (kg_setL k_var k_var) (k_cb kc_tup (k_cons k_var k_nil)))
      (k_if (k_t (k_op ko_ne (k_opR (ko_eqO T.nf_Run_Run) k_var (k_make he_WF (fun _ => rfl) (k_cons (k_op ko_ix k_var (k_c fun _ => rfl)) (k_cons (k_op ko_ix k_var (k_c fun _ => rfl)) (k_cons (k_op ko_ix k_var (k_c fun _ => rfl)) k_nil))))) (k_op ko_eq k_var k_var))) (k_ret (k_c fun _ => rfl)) k_nx))))
      (k_seq (k_if (k_t (k_op ko_ne (k_cb kc_repr (k_cons (k_fld T.cl_Run T.no_Run_classes k_var) k_nil)) (k_cb kc_repr (k_cons (k_cb kc_tup (k_cons k_var k_nil)) k_nil)))) (k_ret (k_c fun _ => rfl)) k_nx)
      (k_ret (k_op ko_eq (k_cb kc_repr (k_cons (k_lst (k_cons (k_fld T.cl_Run T.no_Run_deeds k_var) (k_cons (k_fld T.cl_Run T.no_Run_once k_var) (k_cons (k_fld T.cl_Run T.no_Run_anew k_var) k_nil)))) k_nil)) (k_cb kc_repr (k_cons k_var k_nil)))))))))))))))))))) h
theorem ok_law0 (T : Fx K mg) {fd : FuncData} (F : FnS K "law" "law" s_law (He.ga K "law") fd) : FnG P w K mg base (L2.CX P w) 9 (He.ga K "law") fd ["_law_script"] (spOf K (spR (y_law K))) := by
  obtain ⟨_, c_new_source⟩ := ok_new_source (P := P) (w := w) (base := base) T
  obtain ⟨_, c_right⟩ := ok_right (P := P) (w := w) (base := base) T
  refine fnzGd F sc_law (fun _ _ _ _ h => y_len h) fun cdv A outer s H E hG hr => ?_
  have tk : Takes (cxOf (L2.CX P w) P w K mg base ["_law_script", "_law_place", "_law_source", "_law_turn"] "law" (defScope s_law) (He.ga K "law") cdv A outer s H E) (WF E) := takes_of rfl rfl rfl rfl
  refine ⟨_, (pss_cons (ps_for (passes_of rfl) rfl (pi_range1 rfl T.f_range (pa_cons (pe_callB (call_max2Z rfl) (by rfl) T.f_max (by decide +kernel) (pa_cons pe_int (pa_cons (pe_callB (call_min2Z rfl) (by rfl) T.f_min (by decide +kernel) (pa_cons pe_int (pa_cons (pe_callB call_lenZ (by rfl) T.f_len (by decide +kernel) (pa_cons (pv 0) pa_nil)) pa_nil))) pa_nil))) pa_nil)) (pg_name (i := 1) sc_law.nd rfl (Or.inl rfl))
      (pss_cons (ps_set (i := 2) sc_law.nd rfl (Or.inl rfl) (pe_callSD (c_new_source.ok.mono (by first | omega | decide | exact Nat.le_refl _)) hr rfl c_new_source.mg c_new_source.kp c_new_source.bi .nil (fun σ => passAt tk σ) (pa_cons (pv 0) (pa_cons (pv 1) pa_nil))))
      (pss_one (ps_for (passes_of rfl) rfl (pi_range1 rfl T.f_range (pa_cons pe_int pa_nil)) (pg_name (i := 3) sc_law.nd rfl (Or.inl rfl))
      (pss_one (ps_if (pt_not (pt_val (pe_callG (c_right.ok.mono (by first | omega | decide | exact Nat.le_refl _)) hG hr rfl c_right.mg c_right.kp c_right.bi .nil (fun σ => passAt tk σ) (pa_cons (pv 2) pa_nil)))) (pss_one (ps_ret pe_bl)) pss_nil))))))
      (pss_one (ps_ret pe_bl))), ?_⟩
  exact fun ds M Φ Ξ h => y_body (N := ["_law_script", "_law_place", "_law_source", "_law_turn"]) (np := 1) (s := b_law K) ((k_seq (k_for (ki_rng1 (k_cons (k_cb kc_max2 (k_cons (k_c fun _ => rfl) (k_cons (k_cb kc_min2 (k_cons (k_c fun _ => rfl) (k_cons (k_cb kc_len (k_cons k_var k_nil)) k_nil))) k_nil))) k_nil)) kg_nm
      (k_seq (k_asg kg_nm (k_call (k_cons k_var (k_cons k_var k_nil))))
      (k_for (ki_rng1 (k_cons (k_c fun _ => rfl) k_nil)) kg_nm
      (k_if (k_tnot (k_tb (k_call (k_cons k_var k_nil)))) (k_ret (k_c fun _ => rfl)) k_nx))))
      (k_ret (k_c fun _ => rfl)))) h
end
def strsD (l : List Str) : List D := l.map D.str
section
variable {M : Mem}
theorem asL_at {M : Mem} {n : Nat} {xs : List D} (h : M[n]? = some (.lst xs)) : asL M (.ref n) = some xs := by
  unfold asL
  simp only [h]
theorem asS_at {M : Mem} {n : Nat} {xs : List D} (h : M[n]? = some (.lst xs)) : asS M (.ref n) = some xs := asS_of_asL (asL_at h)
end
section
variable {a b : YS} {t : YT} {it : YI} {g : YG} {E F : YE} {ρ ρ' : Sl} {M M' M2 : Mem} {Δ : Ed}
theorem seq_nx (h : a ρ M = .nx ρ' M') (k : (b ρ' M').sat Δ) : (y_seq a b ρ M).sat Δ := by
  rw [e_seq, h, th_nx]
  exact k
theorem seq_th (P : Sl → Mem → Prop) (h1 : (a ρ M).sat { Δ with nx := P }) (h2 : ∀ ρ M, P ρ M → (b ρ M).sat Δ) : (y_seq a b ρ M).sat Δ := by
  rw [e_seq]
  exact sat_th P h1 h2
theorem for_at {ds : List D} {G : Mem → Prop} (h : it ρ M = .ok (ds, G) M') (k : (forL g b G ds ρ M').sat Δ) : (y_for it g b ρ M).sat Δ := by
  rw [e_for, h, bs_ok]
  exact k
theorem if_yes (h : t ρ M = .ok true M') (k : (a ρ M').sat Δ) : (y_if t a b ρ M).sat Δ := by
  rw [e_if, h, bs_ok]
  exact k
theorem nx_sat (h : a ρ M = .nx ρ' M') (k : Δ.nx ρ' M') : (a ρ M).sat Δ := by
  rw [h]
  exact k
theorem ret_sat {d : D} (h : E ρ M = .ok d M') (k : Δ.rt d M') : (y_ret E ρ M).sat Δ := by
  rw [e_ret, h, bs_ok]
  exact k
theorem asg_nx {i : Nat} {d : D} (h : E ρ M = .ok d M') : y_asg E (g_nm i) ρ M = .nx (ρ.set i (some d)) M' := by
  rw [e_asg, h, bs_ok]
  rfl
theorem par_nx {i j : Nat} {x y : D} {M2 : Mem} (h : E ρ M = .ok x M') (h2 : F ρ M' = .ok y M2) : y_par i j (y_cons E (y_cons F y_nil)) ρ M = .nx ((ρ.set i (some x)).set j (some y)) M2 := by
  rw [e_par]
  show ((E ρ M).bd _).bs ρ _ = _
  rw [h, bd_ok]
  show ((R.bd ((F ρ M').bd _) _).bs ρ _ : RS) = _
  rw [h2]
  rfl
theorem lstM0 : y_lstM y_nil ρ M = .ok (.ref M.length) (M ++ [.lst []]) := rfl
theorem rng1_ok {n : Int} (h : E ρ M = .ok (.int n) M') (h1 : -4611686018427387904 ≤ n) (h2 : n < 4611686018427387904) : i_rng1 (y_cons E y_nil) ρ M = .ok (rngD 0 n.toNat, fun _ => True) M' := by
  rw [e_i_rng1]
  show ((R.bd (E ρ M) _).bd _ : R _) = _
  rw [h, bd_ok]
  show (if -4611686018427387904 ≤ n ∧ n < 4611686018427387904 then R.ok (rngD 0 n.toNat, fun _ => True) M' else R.bad) = _
  rw [if_pos ⟨h1, h2⟩]
theorem app_nx {n : Nat} {ds : List D} {d : D} (h : E ρ M = .ok (.ref n) M) (h2 : F ρ M = .ok d M') (h3 : M[n]? = some (.lst ds)) (h4 : M'[n]? = some (.lst ds)) (h5 : ds.length < 16777216) : y_drop (y_bm ty_l m_append E (y_cons F y_nil)) ρ M = .nx ρ (M'.set n (.lst (ds ++ [d]))) := by
  have hty : ty_l (.ref n) M = true := by
    unfold ty_l
    rw [asL_at h3]
    rfl
  rw [e_drop, e_bm, h, bd_ok]
  show ((if ty_l (.ref n) M = true then R.bd (R.bd (F ρ M) _) _ else R.bad : R D).bs ρ _ : RS) = _
  rw [if_pos hty, h2, bd_ok]
  show ((optM (m_append (.ref n) [d] M')).bs ρ _ : RS) = _
  unfold m_append
  dsimp only
  rw [h4]
  dsimp only
  rw [if_pos h5]
  rfl
theorem nm_th {i : Nat} {d : D} (k : (b (ρ.set i (some d)) M).sat Δ) : ((nxO (g_nm i d ρ M)).th b).sat Δ := k
theorem tup2_ok {x y : D} {M2 : Mem} (h : E ρ M = .ok x M') (h2 : F ρ M' = .ok y M2) : y_tup (y_cons E (y_cons F y_nil)) ρ M = .ok (.tup [x, y]) M2 := by
  show (R.bd (R.bd (E ρ M) _) _ : R D) = _
  rw [h, bd_ok]
  show (R.bd (R.bd (R.bd (F ρ M') _) _) _ : R D) = _
  rw [h2]
  rfl
theorem call2_ok {f : List D → Mem → R D} {x y d : D} {M2 M3 : Mem} (h : E ρ M = .ok x M') (h2 : F ρ M' = .ok y M2) (h3 : f [x, y] M2 = .ok d M3) : y_call f (y_cons E (y_cons F y_nil)) ρ M = .ok d M3 := by
  rw [e_call]
  show (R.bd (R.bd (E ρ M) _) _ : R D) = _
  rw [h, bd_ok]
  show (R.bd (R.bd (R.bd (F ρ M') _) _) _ : R D) = _
  rw [h2]
  show f [x, y] M2 = _
  exact h3
theorem call1_ok {f : List D → Mem → R D} {x d : D} {M3 : Mem} (h : E ρ M = .ok x M') (h3 : f [x] M' = .ok d M3) : y_call f (y_cons E y_nil) ρ M = .ok d M3 := by
  rw [e_call]
  show (R.bd (R.bd (E ρ M) _) _ : R D) = _
  rw [h]
  show f [x] M' = _
  exact h3
theorem tup3_ok {x y z : D} {G : YE} {M2 M3 : Mem} (h : E ρ M = .ok x M') (h2 : F ρ M' = .ok y M2) (h3 : G ρ M2 = .ok z M3) : y_tup (y_cons E (y_cons F (y_cons G y_nil))) ρ M = .ok (.tup [x, y, z]) M3 := by
  show (R.bd (R.bd (E ρ M) _) _ : R D) = _
  rw [h, bd_ok]
  show (R.bd (R.bd (R.bd (F ρ M') _) _) _ : R D) = _
  rw [h2, bd_ok]
  show (R.bd (R.bd (R.bd (R.bd (G ρ M2) _) _) _) _ : R D) = _
  rw [h3]
  rfl
theorem addM_ok {x y : D} {xs ys : List D} {M2 : Mem} (h : E ρ M = .ok x M') (h2 : F ρ M' = .ok y M2) (hx : asL M2 x = some xs) (hy : asL M2 y = some ys) (hl : xs.length + ys.length ≤ 16777216) : y_opR o_addM E F ρ M = .ok (.ref M2.length) (M2 ++ [.lst (xs ++ ys)]) := by
  rw [e_opR, h, bd_ok]
  show ((F ρ M').bd fun y M2 => (o_addM x y M2).nox) = _
  rw [h2, bd_ok, addM_at hx hy hl, nox_ok]
theorem ifnx_no (h : t ρ M = .ok false M') : y_if t a y_nx ρ M = .nx ρ M' := by
  rw [e_if, h, bs_ok]
  rfl
theorem ne_nil {p : Nat} {l : List D} (h : asL M (.ref p) = some l) : o_ne (.ref p) (.lst []) M = some (.bl (!l.isEmpty)) := by
  show (eqD M (.ref p) (.lst [])).map (fun b => D.bl (!b)) = _
  rw [eqD_rnil, h]
  rfl
theorem tnot_ok {b : Bool} (h : t ρ M = .ok b M') : y_tnot t ρ M = .ok (!b) M' := by
  rw [e_tnot, h, bd_ok]
  rfl
theorem tand_no {t2 : YT} (h : t ρ M = .ok false M') : y_tand t t2 ρ M = .ok false M' := by
  rw [e_tand, h, bd_ok]
  rfl
theorem tand_yes {t2 : YT} {r : R Bool} (h : t ρ M = .ok true M') (h2 : t2 ρ M' = r) : y_tand t t2 ρ M = r := by
  rw [e_tand, h, bd_ok]
  exact h2
theorem tor_no {t2 : YT} {r : R Bool} (h : t ρ M = .ok false M') (h2 : t2 ρ M' = r) : y_tor t t2 ρ M = r := by
  rw [e_tor, h, bd_ok]
  exact h2
theorem lst1_ok {x : D} (h : E ρ M = .ok x M') : y_lst (y_cons E y_nil) ρ M = .ok (.lst [x]) M' := by
  rw [e_lst]
  show (R.bd (R.bd (E ρ M) _) _ : R D) = _
  rw [h]
  rfl
theorem var_ok {i : Nat} {d : D} (h : ρ[i]? = some (some d)) : y_var i ρ M = .ok d M := by
  unfold y_var
  rw [h]
theorem op_ok {o : D → D → Mem → Option D} {x y d : D} {M2 : Mem} (h : E ρ M = .ok x M') (h2 : F ρ M' = .ok y M2) (h3 : o x y M2 = some d) : y_op o E F ρ M = .ok d M2 := by
  rw [e_op, h, bd_ok]
  unfold k3_op
  rw [h2, bd_ok]
  show opt (o x y M2) M2 = _
  rw [h3]
  rfl
theorem t_ok {b : Bool} (h : E ρ M = .ok (.bl b) M') : y_t E ρ M = .ok b M' := by
  rw [e_t, h, bd_ok]
  rfl
end
section
variable {K : PySem.W.Frag} {F0 : Mem}
theorem lcI {I : List D → Mem → Prop} {g : YG} {e : YE} {vs : List Nat} {ρ : Sl} {G : Mem → Prop} {n : Nat} (hG : ∀ ys M, I ys M → G M) : ∀ (ds acc : List D) (M : Mem), acc.length + ds.length = n → I acc M → (∀ ys M d, d ∈ ds → ys.length < n → I ys M → ∃ ρ2 y M', g d (wipeZ ρ vs) M = some (ρ2, M) ∧ e ρ2 M = .ok y M' ∧ I (ys ++ [y]) M') → ∃ zs M', lcL g y_yes e vs ρ G ds M = .ok zs M' ∧ I (acc ++ zs) M' ∧ zs.length = ds.length
  | [], acc, M, _, h, _ => ⟨[], M, by
    rw [lcL]
    exact if_pos (hG _ _ h), by rw [List.append_nil]; exact h, rfl⟩
  | d :: ds, acc, M, hn, h, hs => by
    obtain ⟨ρ2, y, M', h1, h2, h3⟩ := hs acc M d List.mem_cons_self (by rw [List.length_cons] at hn; omega) h
    obtain ⟨zs, M2, k1, k2, k3⟩ := lcI hG ds (acc ++ [y]) M' (by rw [List.length_append, List.length_singleton, ← hn, List.length_cons]; omega) h3 fun ys M d hd => hs ys M d (List.mem_cons_of_mem _ hd)
    refine ⟨y :: zs, M2, ?_, by rw [List.append_assoc] at k2; exact k2, by rw [List.length_cons, List.length_cons, k3]⟩
    rw [lcL, if_pos (hG _ _ h), h1, getO_some, bd_ok]
    show R.bd (R.ok true M) _ = _
    rw [bd_ok, if_pos rfl, h2, bd_ok, k1, bd_ok]
theorem lc_I {I : List D → Mem → Prop} {E : YA} {g : YG} {e : YE} {vs : List Nat} {ρ : Sl} {M M1 : Mem} {n : Nat} (hE : i_rng1 E ρ M = .ok (rngD 0 n, fun _ => True) M1) (hn : n < 1000) (h0 : I [] M1) (hs : ∀ ys M d, ys.length < n → I ys M → ∃ ρ2 y M', g d (wipeZ ρ vs) M = some (ρ2, M) ∧ e ρ2 M = .ok y M' ∧ I (ys ++ [y]) M') : ∃ zs M2, y_lc (i_rng1 E) g y_yes e vs ρ M = .ok (.lst zs) M2 ∧ I zs M2 ∧ zs.length = n := by
  have hl : (rngD 0 n).length = n := rngD_len 0 n
  obtain ⟨zs, M2, k1, k2, k3⟩ := lcI (I := I) (g := g) (e := e) (vs := vs) (ρ := ρ) (G := fun _ => True) (n := n) (fun _ _ _ => trivial) (rngD 0 n) [] M1 (by rw [hl]; exact Nat.zero_add _) h0 fun ys M d _ => hs ys M d
  refine ⟨zs, M2, ?_, k2, k3.trans hl⟩
  rw [e_lc, hE, bd_ok]
  show (if (rngD 0 n).length < 16777216 then _ else _) = _
  rw [if_pos (by rw [hl]; omega)]
  show R.bd (R.nox (lcL g y_yes e vs ρ _ (rngD 0 n) M1)) _ = _
  rw [k1, nox_ok, bd_ok]
theorem cb1_ok {o : List D → Mem → Option (D × Mem)} {E : YE} {ρ : Sl} {M M' : Mem} {x : D} {r : D × Mem} (h : E ρ M = .ok x M') (h3 : o [x] M' = some r) : y_cb o (y_cons E y_nil) ρ M = .ok r.1 r.2 := by
  rw [e_cb]
  have k1 : (y_cons E y_nil) ρ M = .ok [x] M' := by
    show R.bd (E ρ M) _ = _
    rw [h]
    rfl
  rw [k1, bd_ok]
  show optM (o [x] M') = _
  rw [h3]
  rfl
theorem cb2_ok {o : List D → Mem → Option (D × Mem)} {E F : YE} {ρ : Sl} {M M' M2 : Mem} {x y : D} {r : D × Mem} (h : E ρ M = .ok x M') (h2 : F ρ M' = .ok y M2) (h3 : o [x, y] M2 = some r) : y_cb o (y_cons E (y_cons F y_nil)) ρ M = .ok r.1 r.2 := by
  show (R.bd (R.bd (E ρ M) _) _ : R D) = _
  rw [h, bd_ok]
  show (R.bd (R.bd (R.bd (F ρ M') _) _) _ : R D) = _
  rw [h2]
  show optM (o [x, y] M2) = _
  rw [h3]
  rfl
theorem gc_any {M N : Mem} {d : D} (hl : M.length ≤ N.length) : ∃ N', y_gc M (.ok d N) = .ok d N' ∧ (∀ i, i < M.length → N'[i]? = N[i]?) ∧ M.length ≤ N'.length := by
  by_cases c : d.bnd M.length = true ∧ Coll M N
  · exact ⟨N.take M.length, if_pos c, fun i hi => List.getElem?_take_of_lt hi, by rw [List.length_take, Nat.min_eq_left hl]; exact Nat.le_refl _⟩
  · exact ⟨N, if_neg c, fun _ _ => rfl, hl⟩
theorem any_tup {E : YE} {ρ : Sl} {M M' : Mem} {ds : List D} (h : E ρ M = .ok (.tup ds) M') : i_any E ρ M = .ok (ds, gS (.tup ds) ds) M' := by
  rw [e_i_any, h, bd_ok]
  rfl
theorem insC_at {M : Mem} {n : Nat} {C : Addr} {fs : List (Str × D)} (h : M[n]? = some (.ins C fs)) : insC M (.ref n) C = some fs := by
  unfold insC
  dsimp only
  rw [h]
  exact if_pos rfl
theorem fldV {C : Addr} {f : Str} {E : YE} {ρ : Sl} {M M' : Mem} {n : Nat} {fs : List (Str × D)} {d : D} (h : E ρ M = .ok (.ref n) M') (h2 : M'[n]? = some (.ins C fs)) (h3 : fs.lookup f = some d) : y_fld C f E ρ M = .ok d M' := by
  rw [_root_.Z.e_fld, h, bd_ok]
  show (match (insC M' (.ref n) C).bind (fun fs => fs.lookup f) with | some d => R.ok d M' | none => R.bad) = _
  rw [insC_at h2, Option.bind_some, h3]
theorem len1_ok {E : YE} {ρ : Sl} {M M' : Mem} {x : D} {ds : List D} (h : E ρ M = .ok x M') (hx : asS M' x = some ds) : y_cb c_len (y_cons E y_nil) ρ M = .ok (.int (ds.length : Int)) M' := cb1_ok (x := x) (r := (.int (ds.length : Int), M')) h (by
  cases x <;> first
    | (cases hx; done)
    | (cases hx; rfl)
    | (show (asS M' _).map _ = _
       rw [hx]
       rfl))
theorem b_types : bTys.contains "tuple" = true ∧ bTys.contains "list" = true ∧ bTys.contains "int" = true ∧ bTys.contains "bool" = true ∧ bTys.contains "str" = true ∧ bTys.contains "NoneType" = true := by decide +kernel
theorem ix_seq {M : Mem} {x : D} {ds : List D} {j : Nat} {d : D} (hx : asS M x = some ds) (hd : ds[j]? = some d) : o_ix x (.int (0 + (j : Int))) M = some d := by
  rw [show (0 + (j : Int)) = ((j : Nat) : Int) from by omega]
  unfold o_ix
  dsimp only
  split
  · cases hx
  · rw [hx, Option.bind_some]
    exact _root_.Z.atI_nat hd
theorem rt_of {s : RS} {N : Mem} {d : D} (h : s.sat { nx := fun _ _ => False, rt := fun d' N' => d' = d ∧ N' = N, xn := fun _ _ _ _ => False }) : y_gc N (y_end s) = .ok d N := by
  cases s with
  | rt d' N' =>
    obtain ⟨rfl, rfl⟩ := h
    exact gc_id
  | _ => exact h.elim
theorem consV {E : YE} {r : YA} {ρ : Sl} {M : Mem} {x : D} {xs : List D} (h : E ρ M = .ok x M) (h2 : r ρ M = .ok xs M) : (y_cons E r) ρ M = .ok (x :: xs) M := by
  show R.bd (E ρ M) _ = _
  rw [h, bd_ok, h2]
  rfl
theorem lstV {r : YA} {ρ : Sl} {M : Mem} {xs : List D} (h : r ρ M = .ok xs M) (hl : xs.length ≤ 100) : y_lst r ρ M = .ok (.lst xs) M := by
  rw [e_lst, h, bd_ok]
  exact if_pos (by omega)
theorem tupV {E : YE} {ρ : Sl} {M : Mem} {p : Nat} {ds : List D} (h : E ρ M = .ok (.ref p) M) (h2 : M[p]? = some (.lst ds)) : y_cb c_tup (y_cons E y_nil) ρ M = .ok (.tup ds) M := cb1_ok (x := .ref p) (r := (.tup ds, M)) h (by
  show (asS M (.ref p)).map _ = _
  rw [asS_at h2]
  rfl)
theorem addV {E F : YE} {ρ : Sl} {M : Mem} {x y : D} {a b : List D} (h : E ρ M = .ok x M) (h2 : F ρ M = .ok y M) (hx : asL M x = some a) (hy : asL M y = some b) (hn : (∃ n, x = .ref n) ∨ ∃ l, x = .lst l) (hl : a.length + b.length ≤ 16777216) : y_op o_add E F ρ M = .ok (.lst (a ++ b)) M := op_ok h h2 (by
  have e : addD x y M = some (.lst (a ++ b)) := by
    unfold addD
    rw [hx, hy]
    exact if_pos hl
  rcases hn with ⟨n, rfl⟩ | ⟨l, rfl⟩
  · exact e
  · exact e)
theorem tupL {E : YE} {ρ : Sl} {M : Mem} {ds : List D} (h : E ρ M = .ok (.lst ds) M) : y_cb c_tup (y_cons E y_nil) ρ M = .ok (.tup ds) M := cb1_ok (x := .lst ds) (r := (.tup ds, M)) h rfl
theorem opR_ok {o : D → D → Mem → R D} {E F : YE} {ρ : Sl} {M M1 M2 M3 : Mem} {x y d : D} (h : E ρ M = .ok x M1) (h2 : F ρ M1 = .ok y M2) (h3 : o x y M2 = .ok d M3) : y_opR o E F ρ M = .ok d M3 := by
  show R.bd (E ρ M) _ = _
  rw [h, bd_ok]
  show R.bd (F ρ M1) _ = _
  rw [h2, bd_ok]
  show R.nox (o x y M2) = _
  rw [h3]
  rfl
theorem eqO_at {C B : Addr} {f : List D → Mem → R D} {x y : D} {M : Mem} {fs gs : List (Str × D)} {b : Bool} (h1 : insC M x C = some fs) (h2 : insC M y B = some gs) (h3 : f [x, y] M = .ok (.bl b) M) : o_eqO C B f x y M = .ok (.bl b) M := by
  unfold o_eqO
  rw [h1, h2]
  dsimp only
  rw [h3, bd_ok]
theorem eqX_at {C : Addr} {Bs : List Addr} {f : List D → Mem → R D} {x y : D} {M : Mem} {fs : List (Str × D)} {b : Bool} (h1 : insC M x C = some fs) (h2 : ((btN M y).isSome || Bs.any fun B => (insC M y B).isSome) = true) (h3 : f [x, y] M = .ok (.bl b) M) : o_eqX C Bs f x y M = .ok (.bl b) M := by
  unfold o_eqX
  rw [h1]
  dsimp only
  rw [if_pos h2, h3, bd_ok]
  rfl
theorem consM {E : YE} {r : YA} {ρ : Sl} {M M1 M2 : Mem} {x : D} {xs : List D} (h : E ρ M = .ok x M1) (h2 : r ρ M1 = .ok xs M2) : (y_cons E r) ρ M = .ok (x :: xs) M2 := by
  show R.bd (E ρ M) _ = _
  rw [h, bd_ok, h2]
  rfl
theorem lstM2 {r : YA} {ρ : Sl} {M M2 : Mem} {xs : List D} (h : r ρ M = .ok xs M2) (hl : xs.length ≤ 100) : y_lst r ρ M = .ok (.lst xs) M2 := by
  rw [e_lst, h, bd_ok]
  exact if_pos (by omega)
end
local macro_rules
  | `(tactic| simp_all? [$xs,*]) => `(tactic| simp only [bd_ok, bd_xc, bd_bad, bs_ok, bs_xc, bs_bad, th_nx, th_rt, th_bk, th_ct, th_xc, th_bad, bd_ite, bs_ite, th_ite, opt_some, optM_some, nxO_some, getO_some, nox_ok, e_c, e_k1_un, e_un, e_k2_op, e_k3_op, e_op, e_k4_opR, e_k5_opR, e_opR, e_k6_cb, e_cb, e_k7_cbR, e_cbR, e_k8_bm, e_bm, e_k9_not, e_not, e_k10_isN, e_isN, e_k11_notN, e_notN, e_k12_and, e_and, e_k13_or, e_or, e_k14_ife, e_ife, e_k15_tup, e_tup, e_k16_lst, e_lst, e_k17_lstM, e_lstM, e_dkM, e_dtM, e_k18_fld, e_fld, e_k19_dget, e_k20_dget, e_dget, e_k21_dget1, e_dget1, e_k22_din, e_k23_din, e_din, e_k24_dnotin, e_k25_dnotin, e_dnotin, e_k26_lvals, e_lvals, e_k27_chain, e_k28_chain, e_chain, e_pn, e_k29_ps, e_ps, e_k30_sl, e_k31_sl, e_k32_sl, e_sl, e_k33_rev, e_rev, e_k34_slS, e_k35_slS, e_k36_slS, e_slS, e_nil, e_k37_cons, e_k38_cons, e_cons, e_k39_star, e_star, e_k40_t, e_t, e_k41_tnot, e_tnot, e_k42_tand, e_tand, e_k43_tor, e_tor, e_yes, e_call, e_k44_make, e_make, e_k45_meth, e_meth, e_k46_methN, e_methN, e_k47_cmeth, e_cmeth, e_k48_smeth, e_smeth, e_k49_prop, e_prop, e_k50_callO, e_callO, e_k51_subO, e_k52_subO, e_subO, e_makeL, e_k53_isiT, e_isiT, e_k54_fmt, e_fmt, e_nx, e_seq, e_k55_if, e_if, e_k56_ret, e_ret, e_retN, e_k57_drop, e_drop, e_k58_asg, e_asg, e_brk, e_cnt, e_k59_par, e_par, e_k60_par3, e_par3, e_k61_setF, e_k62_setF, e_setF, e_k63_dputK, e_k64_dputK, e_k65_dputK, e_dputK, e_k66_dputT, e_k67_dputT, e_k68_dputT, e_dputT, e_k69_ddel, e_k70_ddel, e_ddel, e_augI, e_k71_raise, e_raise, e_k72_setO, e_k73_setO, e_k74_setO, e_setO, e_k75_cval, e_cval, e_at, e_for, e_lc, e_lcM, e_g_nm, e_g_nil, e_g_cons, e_g_tup, e_g_unl, e_g_setL, e_i_any, e_i_rng1, e_i_rng2, e_i_rng3, e_i_enum, e_i_zip, e_i_keysK, e_i_keysT, e_o_sub, e_o_mul, e_o_mulS, e_o_mod, e_o_div, e_o_pow, e_o_lt, e_o_le, e_o_gt, e_o_ge, e_u_neg, e_o_add, e_o_eq, e_o_ne, e_o_neSs, e_o_in, e_o_inD, e_o_notInD, e_o_inS, e_o_ix, e_c_len, e_c_lenK, e_c_lenT, e_c_int, e_c_intT, e_c_strI, e_c_abs, e_c_max2, e_c_min2, e_c_tup, e_c_lst, e_c_lstM, e_c_all, e_c_any, e_c_isi, e_c_sorted, e_c_sortM, e_c_maxL, e_m_append, e_m_extend, e_m_split, e_m_join, e_c_strO, e_c_lenO, e_c_boolO, e_o_inO, e_o_eqO, e_c_isiO, e_getDS, e_keyS, e_keyI, lookup1, Nat.add_eq_left, Nat.left_eq_add, Nat.add_left_cancel_iff, ec_0, ec_1, ec_2, ec_3, ec_4, ec_5, ec_6, ec_7, ec_8, ec_9, ec_10, ec_11, ec_12, ec_13, ec_14, ec_15, ec_16, ec_17, ec_18, ec_19, ec_20, ec_21, ec_22, ec_23, ec_24, ec_25, ec_26, ec_27, ec_28, ec_29, ec_30, ec_31, ec_32, ec_33, ec_34, ec_35, ec_36, ec_37, ec_38, ec_39, ec_40, na_2, na_3, na_5, na_7, na_10, na_26, na_31, na_64, na_100, na_256, na_1000, na_4096, eqD_int, eqD_str, eqD_bl, eqD_lnil, eqD_tnil, eqD_rnil, s_nx, s_rt, s_bk, s_ct, s_xc, s_ok, s_xcR, EdT, List.set_set, e_at0, e_at1, e_at2, e_at3, e_at4, e_at5, e_ix0, e_ix1, e_ix2, e_var0, e_varS, e_jsN, e_jsC, e_js, e_wipe0, e_wipeS, e_end_nx, e_end_rt, e_end_xc, end_ite, e_asL_ref, e_asL_lst, e_asL_str, e_asL_int, e_asL_non, e_asL_tup, e_asS_ref, e_asS_lst, e_asS_fz, e_asS_tup, e_asS_kt, e_dkD_ref, e_dkD_dk, e_insC, ml_set, ml_app, mg_app0, mg_app, ms_app0, ms_app, List.set_cons_zero, List.set_cons_succ, List.length_cons, List.length_nil, Bool.false_eq_true, decide_eq_true_eq, Bool.not_eq_true', Bool.and_eq_true, Bool.or_eq_true, Bool.not_true, Bool.not_false, eq_self, if_true, if_false, List.getElem?_cons_zero, List.getElem?_cons_succ, Nat.zero_add, Option.map_some, Option.map_none, Option.bind_some, Option.bind_none, Z.isNon, ↓reduceIte, Int.reduceLT, Int.reduceLE, Int.reduceGT, Int.reduceGE, Int.reduceNeg, Int.reduceAdd, Int.reduceSub, Int.reduceMul, Int.reduceEq, Int.reduceNe, Int.reduceToNat, Int.reducePow, Nat.reduceLeDiff, Nat.reduceLT, Nat.reduceAdd, Nat.reduceSub, Nat.reduceMul, Nat.reduceEqDiff, Nat.reducePow, String.reduceEq, String.reduceNe, strLit_eq, and_self, and_true, true_and, or_true, true_or, or_false, false_or, and_false, false_and, not_true, ne_eq, not_false_eq_true, List.map_cons, List.map_nil, decide_true, decide_false, Bool.true_eq_false, reduceCtorEq, $xs,*])
section
variable {K : PySem.W.Frag}
def Bag (n : Nat) (o : MO) : Prop := ∃ a b c : Int, o = .lst [.int a, .int b, .int c] ∧ 0 ≤ b ∧ b < 4611686018427387904 ∧ 0 ≤ c ∧ c ≤ n
theorem Bag.mono {n m : Nat} {o : MO} (h : Bag n o) (l : n ≤ m) : Bag m o := by
  obtain ⟨a, b, c, h1, h2, h3, h4, h5⟩ := h
  exact ⟨a, b, c, h1, h2, h3, h4, by omega⟩
theorem Bag.bnd {n m : Nat} {o : MO} (h : Bag n o) : o.bnd m = true := by
  obtain ⟨a, b, c, rfl, _⟩ := h
  rfl
theorem log2_le {m : Int} {k : Nat} (h : 0 < m) (h2 : m < 2 ^ k) : m.natAbs.log2 < k := by
  have h0 : m.natAbs ≠ 0 := by omega
  exact (Nat.log2_lt h0).mpr (by
    have : ((m.natAbs : Nat) : Int) < ((2 ^ k : Nat) : Int) := by
      rw [Int.natAbs_of_nonneg (by omega)]
      exact_mod_cast h2
    exact_mod_cast this)
theorem draw_ok {M : Mem} {h n : Nat} {o : MO} {m : Int} (hM : M[h]? = some o) (hb : Bag n o) (hn : n ≤ 1073741824) (hm : 0 < m) (hm2 : m < 2 ^ 200) : ∃ i o', y_draw K [.ref h, .int m] M = .ok (.int i) (M.set h o') ∧ 0 ≤ i ∧ i < m ∧ Bag (n + 1) o' := by
  obtain ⟨a, b, c, rfl, hb0, hb1, hc0, hc1⟩ := hb
  have hl := m_lt hM
  have ho : ∀ o : MO, (M.set h o)[h]? = some o := fun o => mg_set hl
  have hlg : m.natAbs.log2 < 9000 := Nat.lt_trans (log2_le hm hm2) (by decide)
  have c1 : ∀ x : Int, (x % 2147483563 / 32).natAbs < 18446744073709551616 := fun x => by omega
  have c2 : c + 1 < 18446744073709551616 := by omega
  have c4 : -18446744073709551616 < c + 1 := by omega
  have c5 : -18446744073709551616 < b := by omega
  have c6 : b < 18446744073709551616 := by omega
  have c3 : (Int.natAbs 32).log2 < 9000 := by decide +kernel
  have c7 : Nat.log2 32 < 9000 := by decide +kernel
  rw [in_draw, b_draw]
  simp_all? [hM, ho, hm, hlg, c1, c2, c3, c4, c5, c6, c7, List.set_set, gc_ite]
  by_cases ha : 0 < a
  · rw [if_pos ha, gc_set rfl rfl]
    exact ⟨_, _, rfl, Int.emod_nonneg _ (by omega), Int.emod_lt_of_pos _ hm, _, _, _, rfl, hb0, hb1, hc0, by omega⟩
  · rw [if_neg ha, gc_set rfl rfl]
    exact ⟨_, _, rfl, Int.emod_nonneg _ (by omega), Int.emod_lt_of_pos _ hm, _, _, _, rfl, by omega, by omega, by omega, by omega⟩
theorem of_ok {M : Mem} {h n : Nat} {o : MO} {x : D} {xs : List D} (hM : M[h]? = some o) (hb : Bag n o) (hn : n ≤ 1073741824) (hx : ∀ o', asS (M.set h o') x = some xs) (h0 : 0 < xs.length) (hl : xs.length < 1152921504606846976) : ∃ d o', y_of K [.ref h, x] M = .ok d (M.set h o') ∧ d ∈ xs ∧ Bag (n + 1) o' := by
  have hx0 : asS M x = some xs := by
    have := hx o
    rwa [show M.set h o = M from by
      apply List.ext_getElem?
      intro i
      by_cases e : h = i
      · subst e
        rw [hM, mg_set (m_lt hM)]
      · rw [List.getElem?_set_ne e]] at this
  have hc : c_len [x] M = some (.int xs.length, M) := by
    have q : (asS M x).map (fun ds => (D.int (ds.length : Int), M)) = some (.int xs.length, M) := by rw [hx0]; rfl
    cases x with
    | str z => cases hx0
    | _ => exact q
  obtain ⟨i, o', e, i0, i1, hb'⟩ := draw_ok (K := K) (m := (xs.length : Int)) hM hb hn (by omega) (by omega)
  have hi : i.toNat < xs.length := by omega
  have hat : atI xs i = some (xs[i.toNat]) := by
    have := atI_nat (xs := xs) (n := i.toNat) (x := xs[i.toNat]) (by simp [hi])
    rwa [Int.toNat_of_nonneg i0] at this
  have hix : o_ix x (.int i) (M.set h o') = some (xs[i.toNat]) := by
    have q : (asS (M.set h o') x).bind (fun ds => atI ds i) = some (xs[i.toNat]) := by rw [hx o']; exact hat
    cases x with
    | str z => cases hx0
    | _ => exact q
  refine ⟨xs[i.toNat], o', ?_, List.getElem_mem hi, hb'⟩
  rw [in_of, b_of]
  simp_all? [hc, e, hix, -e_c_len, -e_o_ix]
  exact gc_setS hb'.bnd
theorem source_ok {M : Mem} {ns : List Int} {k : Int} (hk : 0 ≤ k) (hk2 : k < 1073741824) (hl : ns.length ≤ 63) : ∃ o, y_new_source K [.fz (ns.map D.int), .int k] M = .ok (.ref M.length) (M ++ [o]) ∧ Bag 0 o := by
  have hz : ∃ z : Int, (if k < ((ns.map D.int).length : Int) then opt ((some (ns.map D.int)).bind fun ds => atI ds k) M else .ok (.int 0) M) = .ok (.int z) M := by
    by_cases h : k < ((ns.map D.int).length : Int)
    · rw [if_pos h]
      rw [List.length_map] at h
      have h2 : k.toNat < ns.length := by omega
      have h3 := atI_nat (xs := ns.map D.int) (n := k.toNat) (x := .int (ns.getD k.toNat 0)) (by rw [List.getElem?_map, List.getD_eq_getElem?_getD, List.getElem?_eq_getElem h2]; rfl)
      rw [Int.toNat_of_nonneg hk] at h3
      exact ⟨_, by rw [Option.bind_some, h3]; rfl⟩
    · exact ⟨0, if_neg h⟩
  obtain ⟨z, hz⟩ := hz
  have e1 : y_ife (y_t (y_op o_lt (y_var 1) (y_cb c_len (y_cons (y_var 0) y_nil)))) (y_op o_ix (y_var 0) (y_var 1)) (y_c (.int 0)) [some (.fz (ns.map D.int)), some (.int k), none, none] M = .ok (.int z) M := by
    rw [← hz]
    simp_all? []
  have c1 : (0 : Int) < 2147483549 := by decide
  have c2 : ∀ x : Int, 0 ≤ x % 2147483549 ∧ x % 2147483549 < 2147483549 := fun x => ⟨Int.emod_nonneg _ (by decide), Int.emod_lt_of_pos _ c1⟩
  rw [in_new_source, b_new_source, e_seq, e_asg, e1]
  have := c2 z
  simp_all? [c1]
  by_cases h : 1000000000000000000 ≤ (if z < 0 then -z else z)
  · rw [if_pos h, gc_ref (Nat.le_refl _)]
    exact ⟨_, rfl, _, _, _, rfl, by omega, by omega, by omega, by omega⟩
  · rw [if_neg h, gc_ref (Nat.le_refl _)]
    exact ⟨_, rfl, _, _, _, rfl, by omega, by omega, by omega, by omega⟩
end
def Sh (k b : Nat) (d : D) : Prop := dat k d = true ∧ (_root_.Z.pyd d).showable = true ∧ (_root_.Z.pyd d).leavesShort 400 = true ∧ (_root_.Z.pyd d).bulk ≤ b
theorem Sh.mono {k k' b b' : Nat} {d : D} (h : Sh k b d) (hk : k ≤ k') (hb : b ≤ b') : Sh k' b' d := ⟨_root_.Z.dat_le h.1 hk, h.2.1, h.2.2.1, Nat.le_trans h.2.2.2 hb⟩
theorem Sh.int {k b : Nat} {i : Int} (h : i.natAbs < 10 ^ 100) : Sh k b (.int i) := ⟨_root_.Z.dat_sc0 rfl k, by
  have h2 : (10 : Nat) ^ 100 < 2 ^ 1919 := by decide +kernel
  show decide (i.natAbs.log2 < 1920) = true
  by_cases h0 : i.natAbs = 0
  · rw [h0]; decide
  · exact decide_eq_true (Nat.lt_trans ((Nat.log2_lt h0).mpr (Nat.lt_trans h h2)) (by decide)), by
  show decide ((PyData.shown (.int i)).length ≤ 400) = true
  refine decide_eq_true ?_
  have := int_text_length_le10 (a := i) (k := 100) (by decide) h
  show (Str.ofString (toString i)).length ≤ 400
  rw [PySem.ofString_length]
  omega, Nat.zero_le _⟩
theorem Sh.non {k b : Nat} : Sh k b .non := ⟨_root_.Z.dat_sc0 rfl k, rfl, rfl, Nat.zero_le _⟩
theorem Sh.bl {k b : Nat} {x : Bool} : Sh k b (.bl x) := ⟨_root_.Z.dat_sc0 rfl k, rfl, rfl, Nat.zero_le _⟩
theorem Sh.str {k b : Nat} {z : Str} (h : PyData.strOk z = true) (hl : z.length ≤ b) : Sh k b (.str z) := ⟨_root_.Z.dat_sc0 (d := .str z) h k, rfl, by
  show (z.cps.toList.all fun c => decide (c < 16 ^ 8)) = true
  unfold PyData.strOk at h
  rw [← Array.all_toList] at h
  refine List.all_eq_true.mpr fun c hc => decide_eq_true ?_
  have := of_decide_eq_true (List.all_eq_true.mp h c hc)
  omega, hl⟩
theorem sh_all {b n : Nat} : ∀ {ds : List D}, (∀ d ∈ ds, (_root_.Z.pyd d).showable = true ∧ (_root_.Z.pyd d).leavesShort 400 = true ∧ (_root_.Z.pyd d).bulk ≤ b) → ds.length ≤ n → PyData.showableAll (_root_.Z.pydL ds) = true ∧ PyData.leavesShortAll 400 (_root_.Z.pydL ds) = true ∧ PyData.bulkAll (_root_.Z.pydL ds) ≤ n * (b + 1)
  | [], _, _ => ⟨rfl, rfl, Nat.zero_le _⟩
  | d :: ds, h, hl => by
    cases n with
    | zero => cases hl
    | succ n =>
      obtain ⟨h1, h2⟩ := List.forall_mem_cons.mp h
      obtain ⟨a, c, e⟩ := sh_all (n := n) h2 (Nat.le_of_succ_le_succ hl)
      refine ⟨?_, ?_, ?_⟩
      · show ((_root_.Z.pyd d).showable && PyData.showableAll (_root_.Z.pydL ds)) = true
        rw [h1.1, a]; rfl
      · show ((_root_.Z.pyd d).leavesShort 400 && PyData.leavesShortAll 400 (_root_.Z.pydL ds)) = true
        rw [h1.2.1, c]; rfl
      · show (_root_.Z.pyd d).bulk + 1 + PyData.bulkAll (_root_.Z.pydL ds) ≤ (n + 1) * (b + 1)
        have := h1.2.2
        rw [Nat.add_mul]
        omega
theorem Sh.tup {k b n : Nat} {ds : List D} (h : ∀ d ∈ ds, Sh k b d) (hl : ds.length ≤ n) (hn : n < 1000) : Sh (k + 1) (n * (b + 1)) (.tup ds) := by
  obtain ⟨a, c, e⟩ := sh_all (b := b) (n := n) (fun d hd => (h d hd).2) hl
  exact ⟨_root_.Z.dat_tup (by omega) fun d hd => (h d hd).1, a, c, e⟩
theorem Sh.lst {k b n : Nat} {ds : List D} (h : ∀ d ∈ ds, Sh k b d) (hl : ds.length ≤ n) (hn : n < 1000) : Sh (k + 1) (n * (b + 1)) (.lst ds) := by
  obtain ⟨a, c, e⟩ := sh_all (b := b) (n := n) (fun d hd => (h d hd).2) hl
  exact ⟨_root_.Z.dat_lst (by omega) fun d hd => (h d hd).1, a, c, e⟩
theorem Sh.dat {k b : Nat} {d : D} (h : Sh k b d) (hk : k ≤ 60) : dat 60 d = true := _root_.Z.dat_le h.1 hk
def reprT (d : D) : Str := (_root_.Z.pyd d).shown
theorem xpN_data {M : Mem} {n k : Nat} {d : D} (h : dat k d = true) : xpN M n d = d := by
  have key : ∀ {k : Nat} {d : D}, dat k d = true → xp M d = d := fun {k} => by
    induction k with
    | zero =>
      intro d h
      cases d <;> first | rfl | cases h
    | succ k ih =>
      intro d h
      rcases dat_succ h with h | ⟨ds, rfl | rfl, hl, hs⟩
      · cases d <;> first | rfl | cases h
      · show D.tup (xpL M ds) = _
        congr 1
        clear h hl
        induction ds with
        | nil => rfl
        | cons a r ihr =>
          show xp M a :: xpL M r = _
          rw [ih (hs a List.mem_cons_self), ihr fun x hx => hs x (List.mem_cons_of_mem _ hx)]
      · show D.lst (xpL M ds) = _
        congr 1
        clear h hl
        induction ds with
        | nil => rfl
        | cons a r ihr =>
          show xp M a :: xpL M r = _
          rw [ih (hs a List.mem_cons_self), ihr fun x hx => hs x (List.mem_cons_of_mem _ hx)]
  induction n with
  | zero => rfl
  | succ n ih =>
    show xpN M n (xp M d) = d
    rw [key h]
    exact ih
theorem repr_val {M : Mem} {k b : Nat} {x d : D} (hx : xpN M 4 x = d) (h : Sh k b d) (hk : k ≤ 60) (hb : b ≤ 40000) : c_repr [x] M = some (.str (reprT d), M) := by
  unfold c_repr shD
  dsimp only
  rw [hx]
  have hl := PyData.shown_le_bulk 400 (by decide) (_root_.Z.pyd d) h.2.2.1
  have := h.2.2.2
  rw [if_pos ⟨h.dat hk, h.2.1, by
    have : (400 + 2) * (_root_.Z.pyd d).bulk ≤ 402 * 40000 := Nat.mul_le_mul (by decide) (by omega)
    omega⟩]
  rfl
section
variable {E F : YE} {ρ : Sl} {M M1 M2 : Mem}
theorem ne_repr {k b : Nat} {d x y : D} (h : Sh k b d) (hE : E ρ M = .ok x M1) (hx : xpN M1 4 x = d) (hF : F ρ M1 = .ok y M2) (hy : xpN M2 4 y = d) (hk : k ≤ 60 := by decide) (hb : b ≤ 40000 := by decide) : y_t (y_op o_ne (y_cb c_repr (y_cons E y_nil)) (y_cb c_repr (y_cons F y_nil))) ρ M = .ok false M2 := t_ok (op_ok (x := .str (reprT d)) (y := .str (reprT d)) (cb1_ok (x := x) (r := (.str (reprT d), M1)) hE (repr_val hx h hk hb)) (cb1_ok (x := y) (r := (.str (reprT d), M2)) hF (repr_val hy h hk hb)) (by
  show some (D.bl (!decide (reprT d = reprT d))) = _
  rw [decide_eq_true rfl]
  rfl))
theorem eq_repr {k b : Nat} {d x y : D} (h : Sh k b d) (hE : E ρ M = .ok x M1) (hx : xpN M1 4 x = d) (hF : F ρ M1 = .ok y M2) (hy : xpN M2 4 y = d) (hk : k ≤ 60 := by decide) (hb : b ≤ 40000 := by decide) : y_op o_eq (y_cb c_repr (y_cons E y_nil)) (y_cb c_repr (y_cons F y_nil)) ρ M = .ok (.bl true) M2 := op_ok (x := .str (reprT d)) (y := .str (reprT d)) (cb1_ok (x := x) (r := (.str (reprT d), M1)) hE (repr_val hx h hk hb)) (cb1_ok (x := y) (r := (.str (reprT d), M2)) hF (repr_val hy h hk hb)) (by
  show some (D.bl (decide (reprT d = reprT d))) = _
  rw [decide_eq_true rfl])
end
def eqT (A B : List D) : Bool := if B = [] then A.isEmpty else PyData.eqvAll (_root_.Z.pydL A) (_root_.Z.pydL B)
theorem eqT_ok {k : Nat} {A B : List D} {M : Mem} (hA : dat k (.tup A) = true) (hB : dat k (.tup B) = true) (hk : k ≤ 60) : o_eq (.tup A) (.tup B) M = some (.bl (eqT A B)) := by
  cases B with
  | nil => rfl
  | cons b r =>
    show (eqG M (.tup A) (.tup (b :: r))).map D.bl = _
    unfold eqG
    rw [xpN_data hA, xpN_data hB, _root_.Z.dat_le hA hk, _root_.Z.dat_le hB hk]
    rfl
section
variable {K : PySem.W.Frag}
theorem int_eq {i j : Int} {M : Mem} : o_eq (.int i) (.int j) M = some (.bl (decide (i = j))) := rfl
theorem ten30 : (0 : Int) < (10 : Int) ^ (30 : Int).toNat ∧ (10 : Int) ^ (30 : Int).toNat < 2 ^ 200 ∧ (10 : Int) ^ (30 : Int).toNat < 10 ^ 100 := by decide +kernel
theorem own_deed_ok {M : Mem} {h n : Nat} {o : MO} (hM : M[h]? = some o) (hb : Bag n o) (hn : n ≤ 1000000) : ∃ d o', y_own_deed K [.ref h] M = .ok d (M.set h o') ∧ Bag (n + 10) o' ∧ Sh 2 18 d := by
  suffices hs : (y_own_deed K [.ref h] M).sat (fun d N => ∃ o', N = M.set h o' ∧ Bag (n + 10) o' ∧ Sh 2 18 d) (fun _ _ _ => False) by
    obtain ⟨d, N, e, o', rfl, r⟩ := sat_ok hs
    exact ⟨d, o', e, r⟩
  have hl := m_lt hM
  have ho : ∀ o : MO, (M.set h o)[h]? = some o := fun o => mg_set hl
  rw [in_own_deed, b_own_deed]
  refine sat_fn ?_
  obtain ⟨w, o1, e1, hw, hb1⟩ := of_ok (K := K) (x := .lst [.str "a", .str "b", .str "mail"]) (xs := [.str "a", .str "b", .str "mail"]) hM hb (by omega) (fun _ => rfl) (by decide) (by decide)
  refine seq_nx (asg_nx (call2_ok (x := .ref h) (y := .lst [.str "a", .str "b", .str "mail"]) rfl rfl e1)) ?_
  have hws : Sh 1 5 w := by
    simp only [List.mem_cons, List.not_mem_nil, or_false] at hw
    rcases hw with rfl | rfl | rfl <;> exact Sh.str (by decide +kernel) (by decide +kernel)
  clear e1 hw
  show (y_seq _ _ [some (.ref h), some w, none, none, none, none, none] _).sat _
  obtain ⟨t10, t11, t12⟩ := ten30
  obtain ⟨i, o2, e2, i0, i1, hb2⟩ := draw_ok (K := K) (m := (10 : Int) ^ (30 : Int).toNat) (ho o1) hb1 (by omega) t10 t11
  rw [List.set_set] at e2
  obtain ⟨x, o3, e3, hx, hb3⟩ := of_ok (K := K) (x := .lst [.int 0, .int 1, .int i]) (xs := [.int 0, .int 1, .int i]) (ho o2) hb2 (by omega) (fun _ => rfl) (by show 0 < 3; decide) (by show 3 < 1152921504606846976; decide)
  rw [List.set_set] at e3
  have el : (y_lst (y_cons (y_c (.int 0)) (y_cons (y_c (.int 1)) (y_cons (y_call (y_draw K) (y_cons (y_var 0) (y_cons (y_op o_pow (y_c (.int 10)) (y_c (.int 30))) y_nil))) y_nil)))) [some (.ref h), some w, none, none, none, none, none] (M.set h o1) = .ok (.lst [.int 0, .int 1, .int i]) (M.set h o2) := lstM2 (consM (M1 := M.set h o1) rfl (consM (M1 := M.set h o1) rfl (consM (M1 := M.set h o2) (call2_ok (x := .ref h) (y := .int ((10 : Int) ^ (30 : Int).toNat)) rfl rfl e2) rfl))) (by show 3 ≤ 100; decide)
  refine seq_nx (asg_nx (call2_ok (x := .ref h) rfl el e3)) ?_
  have hxs : Sh 0 0 x := by
    simp only [List.mem_cons, List.not_mem_nil, or_false] at hx
    rcases hx with rfl | rfl | rfl
    · exact Sh.int (by decide +kernel)
    · exact Sh.int (by decide +kernel)
    · exact Sh.int (by
        have : ((i.natAbs : Nat) : Int) < ((10 ^ 100 : Nat) : Int) := by
          rw [Int.natAbs_of_nonneg i0]
          exact Int.lt_trans i1 t12
        exact_mod_cast this)
  clear el e2 e3 hx i0 i1 hb2 hb1
  show (y_seq _ _ [some (.ref h), some w, some x, none, none, none, none] _).sat _
  obtain ⟨kd, o4, e4, k0, k1, hb4⟩ := draw_ok (K := K) (m := 3) (ho o3) hb3 (by omega) (by decide) (by decide)
  rw [List.set_set] at e4
  refine seq_nx (asg_nx (call2_ok (x := .ref h) (y := .int 3) rfl rfl e4)) ?_
  clear e4 hb3
  show (y_seq _ _ [some (.ref h), some w, some x, some (.int kd), none, none, none] _).sat _
  have et : (y_t (y_op o_eq (y_var 3) (y_c (.int 0)))) [some (.ref h), some w, some x, some (.int kd), none, none, none] (M.set h o4) = .ok (decide (kd = 0)) (M.set h o4) := t_ok (op_ok (x := .int kd) (y := .int 0) rfl rfl int_eq)
  by_cases hk : kd = 0
  · rw [decide_eq_true hk] at et
    refine seq_th (fun _ _ => False) (if_yes et ?_) (fun _ _ h => h.elim)
    obtain ⟨m, o5, e5, m0, m1, hb5⟩ := draw_ok (K := K) (m := 4) (ho o4) hb4 (by omega) (by decide) (by decide)
    rw [List.set_set] at e5
    refine seq_nx (asg_nx (call2_ok (x := .ref h) (y := .int 4) rfl rfl e5)) ?_
    clear e5
    show (y_seq _ _ [some (.ref h), some w, some x, some (.int kd), some (.int m), none, none] _).sat _
    obtain ⟨zs, M2, e6, ⟨o6, rfl, hb6, hz⟩, hlen⟩ := lc_I (I := fun ys N => ∃ o', N = M.set h o' ∧ Bag (n + 5 + ys.length) o' ∧ ∀ y ∈ ys, Sh 0 0 y) (g := g_nm 6) (e := (y_call (y_of K) (y_cons (y_var 0) (y_cons (y_lst (y_cons (y_c .non) (y_cons (y_var 2) (y_cons (y_c (.int 0)) (y_cons (y_c (.int 1)) y_nil))))) y_nil)))) (vs := [6]) (ρ := [some (.ref h), some w, some x, some (.int kd), some (.int m), none, none]) (n := m.toNat) (rng1_ok (E := y_var 4) (M := M.set h o5) (n := m) rfl (by omega) (by omega)) (by omega) ⟨o5, rfl, hb5.mono (by simp), fun _ h => nomatch h⟩ (fun ys M' d hys ⟨o', hM', hb', hy⟩ => by
      subst hM'
      obtain ⟨y, o7, e7, hy7, hb7⟩ := of_ok (K := K) (x := .lst [.non, x, .int 0, .int 1]) (xs := [.non, x, .int 0, .int 1]) (ho o') hb' (by omega) (fun _ => rfl) (by show 0 < 4; decide) (by show 4 < 1152921504606846976; decide)
      rw [List.set_set] at e7
      refine ⟨_, y, M.set h o7, rfl, call2_ok (x := .ref h) (y := .lst [.non, x, .int 0, .int 1]) rfl rfl e7, o7, rfl, hb7.mono (by rw [List.length_append]; exact Nat.le_refl _), List.forall_mem_append.mpr ⟨hy, List.forall_mem_singleton.mpr ?_⟩⟩
      simp only [List.mem_cons, List.not_mem_nil, or_false] at hy7
      rcases hy7 with rfl | rfl | rfl | rfl
      · exact Sh.non
      · exact hxs
      · exact Sh.int (by decide +kernel)
      · exact Sh.int (by decide +kernel))
    refine seq_nx (asg_nx e6) ?_
    refine ret_sat (d := .tup [.str "tell", w, .tup zs]) (M' := M.set h o6) rfl ?_
    show (y_gc M (.ok _ (M.set h o6))).sat _ _
    rw [gc_setS hb6.bnd]
    exact ⟨o6, rfl, hb6.mono (by omega), Sh.tup (k := 1) (b := 5) (n := 3) (List.forall_mem_cons.mpr ⟨Sh.str (by decide +kernel) (by decide +kernel), List.forall_mem_cons.mpr ⟨hws, List.forall_mem_singleton.mpr ((Sh.tup (k := 0) (b := 0) (n := 3) hz (by omega) (by decide)).mono (by decide) (by decide))⟩⟩) (by show 3 ≤ 3; decide) (by decide)⟩
  · rw [decide_eq_false hk] at et
    refine seq_nx (ifnx_no et) ?_
    have hp : ∃ z, (z = "put" ∨ z = "clear") ∧ (y_op o_ix (y_lst (y_cons (y_c (.str "put")) (y_cons (y_c (.str "clear")) y_nil))) (y_op o_sub (y_var 3) (y_c (.int 1)))) [some (.ref h), some w, some x, some (.int kd), none, none, none] (M.set h o4) = .ok (.str z) (M.set h o4) := by
      have e8 : (y_op o_sub (y_var 3) (y_c (.int 1))) [some (.ref h), some w, some x, some (.int kd), none, none, none] (M.set h o4) = .ok (.int (kd - 1)) (M.set h o4) := rfl
      have : kd = 1 ∨ kd = 2 := by omega
      rcases this with rfl | rfl
      · exact ⟨"put", .inl rfl, rfl⟩
      · exact ⟨"clear", .inr rfl, rfl⟩
    obtain ⟨z, hz, ez⟩ := hp
    refine ret_sat (d := .tup [.str z, x, w]) (M' := M.set h o4) (tup3_ok ez rfl rfl) ?_
    show (y_gc M (.ok _ (M.set h o4))).sat _ _
    rw [gc_setS hb4.bnd]
    exact ⟨o4, rfl, hb4.mono (by omega), Sh.tup (k := 1) (b := 5) (n := 3) (List.forall_mem_cons.mpr ⟨by rcases hz with rfl | rfl <;> exact Sh.str (by decide +kernel) (by decide +kernel), List.forall_mem_cons.mpr ⟨hxs.mono (by decide) (by decide), List.forall_mem_singleton.mpr hws⟩⟩) (by show 3 ≤ 3; decide) (by decide)⟩
def Dds (A : List D) : Prop := (∀ d ∈ A, Sh 2 18 d) ∧ A.length ≤ 5
theorem deeds_ok {M : Mem} {h n : Nat} {v : Nat} {E : YA} {ρ : Sl} {m : Nat} {M1 : Mem} {o1 : MO} (hE : i_rng1 E ρ M = .ok (rngD 0 m, fun _ => True) M1) (hm : m < 5) (hM : M1[h]? = some o1) (hb : Bag n o1) (hn : n ≤ 900000) (hr : ∀ d, (((wipeZ ρ [v]).set v (some d)))[0]? = some (some (.ref h))) : ∃ zs o', y_lcMG (i_rng1 E) (g_nm v) y_yes (y_call (y_own_deed K) (y_cons (y_var 0) y_nil)) [v] ρ M = .ok (.ref M1.length) (M1.set h o' ++ [.lst zs]) ∧ Bag (n + 50) o' ∧ Dds zs := by
  have hl := m_lt hM
  have ho : ∀ o : MO, (M1.set h o)[h]? = some o := fun o => mg_set hl
  have self : M1.set h o1 = M1 := by
    apply List.ext_getElem?
    intro i
    by_cases e : h = i
    · subst e
      rw [hM, mg_set hl]
    · rw [List.getElem?_set_ne e]
  have hlr : (rngD 0 m).length = m := rngD_len 0 m
  obtain ⟨zs, M2, k1, ⟨o2, rfl, hb2, hz⟩, k3⟩ := lcI (I := fun ys N => ∃ o', N = M1.set h o' ∧ Bag (n + 10 * ys.length) o' ∧ ∀ y ∈ ys, Sh 2 18 y) (g := g_nm v) (e := y_call (y_own_deed K) (y_cons (y_var 0) y_nil)) (vs := [v]) (ρ := ρ) (G := fun _ => True) (n := m) (fun _ _ _ => trivial) (rngD 0 m) [] M1 (by rw [hlr]; exact Nat.zero_add _) ⟨o1, self.symm, hb, fun _ h => nomatch h⟩ (fun ys M' d _ hys ⟨o', hM', hb', hy⟩ => by
    subst hM'
    obtain ⟨y, o7, e7, hb7, hy7⟩ := own_deed_ok (K := K) (ho o') hb' (by omega)
    rw [List.set_set] at e7
    exact ⟨_, y, M1.set h o7, rfl, call1_ok (x := .ref h) (var_ok (hr d)) e7, o7, rfl, hb7.mono (by rw [List.length_append]; show _ ≤ n + 10 * (ys.length + 1); omega), List.forall_mem_append.mpr ⟨hy, List.forall_mem_singleton.mpr hy7⟩⟩)
  rw [List.nil_append] at hb2 hz
  refine ⟨zs, o2, ?_, hb2.mono (by omega), hz, by omega⟩
  rw [e_lcMG, hE, bd_ok]
  show (if (rngD 0 m).length < 16777216 then _ else _) = _
  rw [if_pos (by rw [hlr]; omega), k1, nox_ok, bd_ok, List.length_set]
theorem gc_new0 {M N : Mem} {L : Nat} (h : L = M.length) : y_gc M (.ok (.ref L) N) = .ok (.ref L) N := gc_ref (by omega)
theorem other_ok {M : Mem} {h n one : Nat} {o : MO} {A : List D} (hM : M[h]? = some o) (hb : Bag n o) (hn : n ≤ 800000) (hA : M[one]? = some (.lst A)) (dA : Dds A) (hne : one ≠ h) : ∃ B o', y_other K [.ref h, .ref one] M = .ok (.ref M.length) (M.set h o' ++ [.lst B]) ∧ Bag (n + 60) o' ∧ Dds B := by
  suffices hs : (y_other K [.ref h, .ref one] M).sat (fun d N => d = .ref M.length ∧ ∃ B o', N = M.set h o' ++ [.lst B] ∧ Bag (n + 60) o' ∧ Dds B) (fun _ _ _ => False) by
    obtain ⟨d, N, e, rfl, B, o', rfl, r⟩ := sat_ok hs
    exact ⟨B, o', e, r⟩
  have hl := m_lt hM
  have ho : ∀ o : MO, (M.set h o)[h]? = some o := fun o => mg_set hl
  have hone : ∀ o : MO, (M.set h o)[one]? = some (.lst A) := fun o => (List.getElem?_set_ne (Ne.symm hne)).trans hA
  rw [in_other, b_other]
  refine sat_fn ?_
  obtain ⟨kd, o1, e1, k0, k1, hb1⟩ := draw_ok (K := K) (m := 6) hM hb (by omega) (by decide) (by decide)
  refine seq_nx (asg_nx (call2_ok (x := .ref h) (y := .int 6) rfl rfl e1)) ?_
  clear e1
  show (y_seq _ _ [some (.ref h), some (.ref one), some (.int kd), none, none] _).sat _
  have fin : ∀ (B : List D) (o' : MO), Bag (n + 60) o' → Dds B → (y_gc M (.ok (.ref M.length) (M.set h o' ++ [.lst B]))).sat (fun d N => d = .ref M.length ∧ ∃ B o', N = M.set h o' ++ [.lst B] ∧ Bag (n + 60) o' ∧ Dds B) (fun _ _ _ => False) := fun B o' b dB => by
    rw [gc_new0 rfl]
    exact ⟨rfl, B, o', rfl, b, dB⟩
  have tst : ∀ (j : Int) (ρ : Sl), ρ[2]? = some (some (.int kd)) → y_t (y_op o_eq (y_var 2) (y_c (.int j))) ρ (M.set h o1) = .ok (decide (kd = j)) (M.set h o1) := fun j ρ hr => t_ok (op_ok (x := .int kd) (y := .int j) (var_ok hr) rfl int_eq)
  have lenS : (M.set h o1).length = M.length := List.length_set
  have elst : (y_cb c_lstM (y_cons (y_var 1) y_nil)) [some (.ref h), some (.ref one), some (.int kd), none, none] (M.set h o1) = .ok (.ref M.length) (M.set h o1 ++ [.lst A]) := cb1_ok (x := .ref one) (r := (.ref M.length, M.set h o1 ++ [.lst A])) rfl (by
    show (asS (M.set h o1) (.ref one)).map _ = _
    rw [asS_at (hone o1)]
    show some (D.ref (M.set h o1).length, _) = _
    rw [lenS])
  have ed : y_cb c_lst (y_cons (y_var 1) y_nil) [some (.ref h), some (.ref one), some (.int kd), none, none] (M.set h o1) = .ok (.lst A) (M.set h o1) := cb1_ok (x := .ref one) (r := (.lst A, M.set h o1)) rfl (by
    show (asS (M.set h o1) (.ref one)).map _ = _
    rw [asS_at (hone o1)]
    rfl)
  by_cases c0 : kd = 0
  · have u := tst 0 [some (.ref h), some (.ref one), some (.int kd), none, none] rfl
    rw [decide_eq_true c0] at u
    refine seq_th (fun _ _ => False) (if_yes u (ret_sat (d := .ref M.length) (M' := M.set h o1 ++ [.lst []]) ?_ (fin [] o1 (hb1.mono (by omega)) ⟨(fun _ h => nomatch h), by decide⟩))) (fun _ _ h => h.elim)
    rw [lstM0, lenS]
  have u := tst 0 [some (.ref h), some (.ref one), some (.int kd), none, none] rfl
  rw [decide_eq_false c0] at u
  refine seq_nx (ifnx_no u) ?_
  clear u
  by_cases c1 : kd = 1
  · have u := tst 1 [some (.ref h), some (.ref one), some (.int kd), none, none] rfl
    rw [decide_eq_true c1] at u
    refine seq_th (fun _ _ => False) (if_yes u (ret_sat (d := .ref M.length) (M' := M.set h o1 ++ [.lst (_root_.Z.cutD A none (some (-1)))]) ?_ (fin _ o1 (hb1.mono (by omega)) ⟨fun d hd => dA.1 d (List.mem_of_mem_drop (List.mem_of_mem_take hd)), ?_⟩))) (fun _ _ h => h.elim)
    · show (R.bd (y_cb c_lst (y_cons (y_var 1) y_nil) [some (.ref h), some (.ref one), some (.int kd), none, none] (M.set h o1)) _ : R D) = _
      rw [ed, bd_ok]
      show R.ok (D.ref (M.set h o1).length) _ = _
      rw [lenS]
    · rw [List.length_take, List.length_drop]
      have := dA.2
      omega
  have u := tst 1 [some (.ref h), some (.ref one), some (.int kd), none, none] rfl
  rw [decide_eq_false c1] at u
  refine seq_nx (ifnx_no u) ?_
  clear u
  by_cases c2 : kd = 2
  · have u := tst 2 [some (.ref h), some (.ref one), some (.int kd), none, none] rfl
    rw [decide_eq_true c2] at u
    refine seq_th (fun _ _ => False) (if_yes u (ret_sat (d := .ref M.length) (M' := M.set h o1 ++ [.lst A.reverse]) ?_ (fin _ o1 (hb1.mono (by omega)) ⟨fun d hd => dA.1 d (List.mem_reverse.mp hd), by rw [List.length_reverse]; exact dA.2⟩))) (fun _ _ h => h.elim)
    show (R.bd (y_cb c_lst (y_cons (y_var 1) y_nil) [some (.ref h), some (.ref one), some (.int kd), none, none] (M.set h o1)) _ : R D) = _
    rw [ed, bd_ok]
    show R.ok (D.ref (M.set h o1).length) _ = _
    rw [lenS]
  have u := tst 2 [some (.ref h), some (.ref one), some (.int kd), none, none] rfl
  rw [decide_eq_false c2] at u
  refine seq_nx (ifnx_no u) ?_
  clear u
  by_cases c3 : kd = 3
  · have u := tst 3 [some (.ref h), some (.ref one), some (.int kd), none, none] rfl
    rw [decide_eq_true c3] at u
    obtain ⟨m, o2, e2, m0, m1, hb2⟩ := draw_ok (K := K) (m := 5) (ho o1) hb1 (by omega) (by decide) (by decide)
    rw [List.set_set] at e2
    obtain ⟨zs, o3, e3, hb3, dz⟩ := deeds_ok (K := K) (v := 4) (E := (y_cons (y_call (y_draw K) (y_cons (y_var 0) (y_cons (y_c (.int 5)) y_nil))) y_nil)) (ρ := [some (.ref h), some (.ref one), some (.int kd), none, none]) (M := M.set h o1) (m := m.toNat) (rng1_ok (call2_ok (x := .ref h) (y := .int 5) rfl rfl e2) (by omega) (by omega)) (by omega) (ho o2) hb2 (by omega) (fun _ => rfl)
    rw [List.set_set, List.length_set] at e3
    exact seq_th (fun _ _ => False) (if_yes u (ret_sat (d := .ref M.length) (M' := M.set h o3 ++ [.lst zs]) e3 (fin _ o3 (hb3.mono (by omega)) dz))) (fun _ _ h => h.elim)
  have u := tst 3 [some (.ref h), some (.ref one), some (.int kd), none, none] rfl
  rw [decide_eq_false c3] at u
  refine seq_nx (ifnx_no u) ?_
  clear u
  by_cases c4 : kd = 4 ∧ A ≠ []
  · have u : (y_tand (y_t (y_op o_eq (y_var 2) (y_c (.int 4)))) (y_t (y_op o_ne (y_var 1) (y_lst y_nil)))) [some (.ref h), some (.ref one), some (.int kd), none, none] (M.set h o1) = .ok true (M.set h o1) := by
      have u1 := tst 4 [some (.ref h), some (.ref one), some (.int kd), none, none] rfl
      rw [decide_eq_true c4.1] at u1
      refine tand_yes u1 (t_ok (op_ok (x := .ref one) (y := .lst []) rfl rfl ((ne_nil (asL_at (hone o1))).trans ?_)))
      cases A with
      | nil => exact absurd rfl c4.2
      | cons a r => rfl
    have hA0 : 0 < A.length := by
      cases A with
      | nil => exact absurd rfl c4.2
      | cons a r => exact Nat.succ_pos _
    have hA5 := dA.2
    obtain ⟨i, o2, e2, i0, i1, hb2⟩ := draw_ok (K := K) (m := (A.length : Int)) (ho o1) hb1 (by omega) (by omega) (by omega)
    rw [List.set_set] at e2
    refine seq_th (fun _ _ => False) (if_yes u ?_) (fun _ _ h => h.elim)
    refine seq_nx (asg_nx (call2_ok (x := .ref h) (y := .int (A.length : Int)) rfl (len1_ok (x := .ref one) rfl (asS_at (hone o1))) e2)) ?_
    show (y_ret _ [some (.ref h), some (.ref one), some (.int kd), some (.int i), none] _).sat _
    obtain ⟨d, o3, e3, hb3, hd⟩ := own_deed_ok (K := K) (ho o2) hb2 (by omega)
    rw [List.set_set] at e3
    have s1 : (y_sl (y_var 1) y_pn (y_ps (y_var 3))) [some (.ref h), some (.ref one), some (.int kd), some (.int i), none] (M.set h o2) = .ok (.lst (_root_.Z.cutD A none (some i))) (M.set h o2) := by
      show (opt ((asS (M.set h o2) (.ref one)).map fun ds => D.lst (_root_.Z.cutD ds none (some i))) (M.set h o2) : R D) = _
      rw [asS_at (hone o2)]
      rfl
    have s2 : (y_sl (y_var 1) (y_ps (y_op o_add (y_var 3) (y_c (.int 1)))) y_pn) [some (.ref h), some (.ref one), some (.int kd), some (.int i), none] (M.set h o3) = .ok (.lst (_root_.Z.cutD A (some (i + 1)) none)) (M.set h o3) := by
      show (opt ((asS (M.set h o3) (.ref one)).map fun ds => D.lst (_root_.Z.cutD ds (some (i + 1)) none)) (M.set h o3) : R D) = _
      rw [asS_at (hone o3)]
      rfl
    have l1 : (_root_.Z.cutD A none (some i)).length ≤ 5 := by
      unfold _root_.Z.cutD
      rw [List.length_take, List.length_drop]
      omega
    have s12 : (y_op o_add (y_sl (y_var 1) y_pn (y_ps (y_var 3))) (y_lst (y_cons (y_call (y_own_deed K) (y_cons (y_var 0) y_nil)) y_nil))) [some (.ref h), some (.ref one), some (.int kd), some (.int i), none] (M.set h o2) = .ok (.lst (_root_.Z.cutD A none (some i) ++ [d])) (M.set h o3) := by
      refine op_ok (x := .lst (_root_.Z.cutD A none (some i))) (y := .lst [d]) s1 (lst1_ok (call1_ok (x := .ref h) rfl e3)) ?_
      show (if (_root_.Z.cutD A none (some i)).length + 1 ≤ 16777216 then some (D.lst (_root_.Z.cutD A none (some i) ++ [d])) else none) = _
      rw [if_pos (by omega)]
    have la : (_root_.Z.cutD A none (some i) ++ [d] ++ _root_.Z.cutD A (some (i + 1)) none).length ≤ 5 := by
      unfold _root_.Z.cutD
      rw [List.length_append, List.length_append, List.length_take, List.length_drop, List.length_take, List.length_drop, HT.sIx_none, HT.sIx_none]
      have e1 : HT.sIx A.length 0 (some (i + 1)) = i.toNat + 1 := by
        have := HT.sIx_nat A.length 0 (i.toNat + 1)
        rw [show (((i.toNat + 1 : Nat)) : Int) = i + 1 by omega] at this
        rw [this]
        omega
      have e2 : HT.sIx A.length A.length (some i) = i.toNat := by
        have := HT.sIx_nat A.length A.length i.toNat
        rw [show ((i.toNat : Nat) : Int) = i by omega] at this
        rw [this]
        omega
      rw [e1, e2, List.length_singleton]
      omega
    refine ret_sat (d := .ref M.length) (M' := M.set h o3 ++ [.lst (_root_.Z.cutD A none (some i) ++ [d] ++ _root_.Z.cutD A (some (i + 1)) none)]) ?_ (fin _ o3 (hb3.mono (by omega)) ⟨?_, la⟩)
    · refine (addM_ok (xs := _root_.Z.cutD A none (some i) ++ [d]) (ys := _root_.Z.cutD A (some (i + 1)) none) s12 s2 rfl rfl (by rw [← List.length_append]; omega)).trans ?_
      rw [List.length_set]
    · refine List.forall_mem_append.mpr ⟨List.forall_mem_append.mpr ⟨fun d hd => dA.1 d (List.mem_of_mem_drop (List.mem_of_mem_take hd)), List.forall_mem_singleton.mpr hd⟩, fun d hd => dA.1 d (List.mem_of_mem_drop (List.mem_of_mem_take hd))⟩
  · have u : (y_tand (y_t (y_op o_eq (y_var 2) (y_c (.int 4)))) (y_t (y_op o_ne (y_var 1) (y_lst y_nil)))) [some (.ref h), some (.ref one), some (.int kd), none, none] (M.set h o1) = .ok false (M.set h o1) := by
      have u1 := tst 4 [some (.ref h), some (.ref one), some (.int kd), none, none] rfl
      by_cases k4 : kd = 4
      · rw [decide_eq_true k4] at u1
        have hA0 : A = [] := by
          by_cases z : A = []
          · exact z
          · exact absurd ⟨k4, z⟩ c4
        refine tand_yes u1 (t_ok (op_ok (x := .ref one) (y := .lst []) rfl rfl ((ne_nil (asL_at (hone o1))).trans ?_)))
        rw [hA0]
        rfl
      · rw [decide_eq_false k4] at u1
        exact tand_no u1
    refine seq_nx (ifnx_no u) ?_
    exact ret_sat (d := .ref M.length) elst (fin A o1 (hb1.mono (by omega)) dA)
end
section
variable {K : PySem.W.Frag}
theorem setF_nx {C : Addr} {f : Str} {E : YE} {ρ : Sl} {M M1 : Mem} {n : Nat} {d : D} {fs : List (Str × D)} (h : E ρ M = .ok d M1) (h0 : ρ[0]? = some (some (.ref n))) (hm : M1[n]? = some (.ins C fs)) (hl : fs.length < 1000 := by simp) : y_setF C f (y_var 0) E ρ M = .nx ρ (M1.set n (.ins C (putD f d fs))) := by
  rw [e_setF, h, bs_ok]
  show R.bs (y_var 0 ρ M1) ρ _ = _
  rw [var_ok h0, bs_ok]
  show (match insC M1 (.ref n) C with
    | some fs => if fs.length < 1000 then RS.nx ρ (M1.set n (.ins C (putD f d fs))) else .bad
    | none => .bad) = _
  rw [insC_at hm]
  dsimp only
  rw [if_pos hl]
theorem drop_bm {ty : D → Mem → Bool} {o : D → List D → Mem → Option (D × Mem)} {E : YE} {As : YA} {ρ : Sl} {M M1 M2 M3 : Mem} {x d : D} {xs : List D} (h : E ρ M = .ok x M1) (ht : ty x M1 = true) (h2 : As ρ M1 = .ok xs M2) (h3 : o x xs M2 = some (d, M3)) : y_drop (y_bm ty o E As) ρ M = .nx ρ M3 := by
  rw [e_drop, e_bm, h, bd_ok]
  show ((if ty x M1 = true then R.bd (As ρ M1) _ else R.bad : R D).bs ρ _ : RS) = _
  rw [if_pos ht, h2, bd_ok]
  show ((optM (o x xs M2)).bs ρ _ : RS) = _
  rw [h3]
  rfl
def clsT (A B C : List D) : List Str := (if eqT A B = true then [("once" : Str)] else []) ++ (if eqT A C = true then [("anew" : Str)] else []) ++ (if eqT A [] = true then [("nothing" : Str)] else [])
def RF (A B C : List D) : List (Str × D) := [("deeds", .tup A), ("once", .tup B), ("anew", .tup C), ("classes", .tup (strsD (clsT A B C)))]
theorem Dds.sh {A : List D} (h : Dds A) : Sh 3 95 (.tup A) := (Sh.tup (k := 2) (b := 18) (n := 5) h.1 h.2 (by decide)).mono (by decide) (by decide)
theorem cls_sub (A B C : List D) : (∀ z ∈ clsT A B C, z ∈ ([("once" : Str), "anew", "nothing"] : List Str)) ∧ (clsT A B C).length ≤ 3 := by
  unfold clsT
  cases eqT A B <;> cases eqT A C <;> cases eqT A [] <;> simp
theorem cls_sh (A B C : List D) : Sh 3 40 (.tup (strsD (clsT A B C))) := by
  have key : ∀ z ∈ ([("once" : Str), "anew", "nothing"] : List Str), PyData.strOk z = true ∧ z.length ≤ 7 := by decide +kernel
  refine (Sh.tup (k := 0) (b := 7) (n := 3) (fun d hd => ?_) (by rw [strsD, List.length_map]; exact (cls_sub A B C).2) (by decide)).mono (by decide) (by decide)
  obtain ⟨z, hz, rfl⟩ := List.mem_map.mp hd
  exact Sh.str (key z ((cls_sub A B C).1 z hz)).1 (key z ((cls_sub A B C).1 z hz)).2
theorem RF_bnd {A B C : List D} (dA : Dds A) (dB : Dds B) (dC : Dds C) (m : Nat) : (MO.ins (He.ga K "Run") (RF A B C)).bnd m = true := by
  show (D.bnd m (.tup A) && (D.bnd m (.tup B) && (D.bnd m (.tup C) && (D.bnd m (.tup (strsD (clsT A B C))) && true)))) = true
  rw [_root_.Z.dat_bnd dA.sh.1, _root_.Z.dat_bnd dB.sh.1, _root_.Z.dat_bnd dC.sh.1, _root_.Z.dat_bnd (cls_sh A B C).1]
  rfl
theorem run_init {N : Mem} {n : Nat} {x y z : D} {A B C : List D} (dA : Dds A) (dB : Dds B) (dC : Dds C) (hn : n = N.length) (hx : c_tup [x] (N ++ [MO.ins (He.ga K "Run") []]) = some (.tup A, N ++ [MO.ins (He.ga K "Run") []])) (hy : ∀ fs, c_tup [y] (N ++ [MO.ins (He.ga K "Run") fs]) = some (.tup B, N ++ [MO.ins (He.ga K "Run") fs])) (hz : ∀ fs, c_tup [z] (N ++ [MO.ins (He.ga K "Run") fs]) = some (.tup C, N ++ [MO.ins (He.ga K "Run") fs])) : y_Run_init K [.ref n, x, y, z] (N ++ [MO.ins (He.ga K "Run") []]) = .ok .non (N ++ [MO.ins (He.ga K "Run") (RF A B C)]) := by
  have hm : ∀ fs, (N ++ [MO.ins (He.ga K "Run") fs])[n]? = some (MO.ins (He.ga K "Run") fs) := fun fs => by rw [hn]; exact mg_app0
  have hs : ∀ fs gs, (N ++ [MO.ins (He.ga K "Run") fs]).set n (MO.ins (He.ga K "Run") gs) = N ++ [MO.ins (He.ga K "Run") gs] := fun fs gs => by rw [hn]; exact set_last
  rw [in_Run_init, b_Run_init]
  suffices h : (((y_seq (y_setF (He.ga K "Run") "deeds" (y_var 0) (y_cb c_tup (y_cons (y_var 1) y_nil))) (y_seq (y_setF (He.ga K "Run") "once" (y_var 0) (y_cb c_tup (y_cons (y_var 2) y_nil))) (y_seq (y_setF (He.ga K "Run") "anew" (y_var 0) (y_cb c_tup (y_cons (y_var 3) y_nil))) (y_seq (y_asg (y_tup (y_cons (y_tup (y_cons (y_c (.str "once")) (y_cons (y_op o_eq (y_fld (He.ga K "Run") "deeds" (y_var 0)) (y_fld (He.ga K "Run") "once" (y_var 0))) y_nil))) (y_cons (y_tup (y_cons (y_c (.str "anew")) (y_cons (y_op o_eq (y_fld (He.ga K "Run") "deeds" (y_var 0)) (y_fld (He.ga K "Run") "anew" (y_var 0))) y_nil))) (y_cons (y_tup (y_cons (y_c (.str "nothing")) (y_cons (y_op o_eq (y_fld (He.ga K "Run") "deeds" (y_var 0)) (y_tup y_nil)) y_nil))) y_nil)))) (g_nm 4)) (y_setF (He.ga K "Run") "classes" (y_var 0) (y_cb c_tup (y_cons (y_lc (i_any (y_var 4)) (g_tup 2 (g_cons (g_nm 5) (g_cons (g_nm 6) g_nil))) (y_t (y_var 6)) (y_var 5) [5, 6]) y_nil))))))) : YS) [some (.ref n), some x, some y, some z, none, none, none] (N ++ [MO.ins (He.ga K "Run") []])).sat { nx := fun _ N' => N' = N ++ [MO.ins (He.ga K "Run") (RF A B C)], rt := fun _ _ => False, xn := fun _ _ _ _ => False } by
    cases q : ((y_seq (y_setF (He.ga K "Run") "deeds" (y_var 0) (y_cb c_tup (y_cons (y_var 1) y_nil))) (y_seq (y_setF (He.ga K "Run") "once" (y_var 0) (y_cb c_tup (y_cons (y_var 2) y_nil))) (y_seq (y_setF (He.ga K "Run") "anew" (y_var 0) (y_cb c_tup (y_cons (y_var 3) y_nil))) (y_seq (y_asg (y_tup (y_cons (y_tup (y_cons (y_c (.str "once")) (y_cons (y_op o_eq (y_fld (He.ga K "Run") "deeds" (y_var 0)) (y_fld (He.ga K "Run") "once" (y_var 0))) y_nil))) (y_cons (y_tup (y_cons (y_c (.str "anew")) (y_cons (y_op o_eq (y_fld (He.ga K "Run") "deeds" (y_var 0)) (y_fld (He.ga K "Run") "anew" (y_var 0))) y_nil))) (y_cons (y_tup (y_cons (y_c (.str "nothing")) (y_cons (y_op o_eq (y_fld (He.ga K "Run") "deeds" (y_var 0)) (y_tup y_nil)) y_nil))) y_nil)))) (g_nm 4)) (y_setF (He.ga K "Run") "classes" (y_var 0) (y_cb c_tup (y_cons (y_lc (i_any (y_var 4)) (g_tup 2 (g_cons (g_nm 5) (g_cons (g_nm 6) g_nil))) (y_t (y_var 6)) (y_var 5) [5, 6]) y_nil))))))) : YS) [some (.ref n), some x, some y, some z, none, none, none] (N ++ [MO.ins (He.ga K "Run") []]) with
    | nx ρ' N' =>
      rw [q] at h
      have h : N' = _ := h
      rw [h]
      show y_gc (N ++ [MO.ins (He.ga K "Run") []]) (.ok .non (N ++ [MO.ins (He.ga K "Run") (RF A B C)])) = _
      rw [← hs [] (RF A B C)]
      exact gc_setS (RF_bnd dA dB dC _)
    | _ => rw [q] at h; exact h.elim
  refine seq_nx (setF_nx (d := .tup A) (cb1_ok (x := x) (r := (.tup A, _)) rfl hx) rfl (hm [])) ?_
  rw [hs]
  show (y_seq _ _ [some (.ref n), some x, some y, some z, none, none, none] (N ++ [MO.ins (He.ga K "Run") [("deeds", .tup A)]])).sat _
  refine seq_nx (setF_nx (d := .tup B) (cb1_ok (x := y) (r := (.tup B, _)) rfl (hy _)) rfl (hm _)) ?_
  rw [hs]
  show (y_seq _ _ [some (.ref n), some x, some y, some z, none, none, none] (N ++ [MO.ins (He.ga K "Run") [("deeds", .tup A), ("once", .tup B)]])).sat _
  refine seq_nx (setF_nx (d := .tup C) (cb1_ok (x := z) (r := (.tup C, _)) rfl (hz _)) rfl (hm _)) ?_
  rw [hs]
  show (y_seq _ _ [some (.ref n), some x, some y, some z, none, none, none] (N ++ [MO.ins (He.ga K "Run") [("deeds", .tup A), ("once", .tup B), ("anew", .tup C)]])).sat _
  have hM := hm [("deeds", .tup A), ("once", .tup B), ("anew", .tup C)]
  have f : ∀ (nm : Str) (d : D), ([("deeds", .tup A), ("once", .tup B), ("anew", .tup C)] : List (Str × D)).lookup nm = some d → y_fld (He.ga K "Run") nm (y_var 0) [some (.ref n), some x, some y, some z, none, none, none] (N ++ [MO.ins (He.ga K "Run") [("deeds", .tup A), ("once", .tup B), ("anew", .tup C)]]) = .ok d (N ++ [MO.ins (He.ga K "Run") [("deeds", .tup A), ("once", .tup B), ("anew", .tup C)]]) := fun nm d h => fldV (n := n) rfl hM h
  have ea : (y_tup (y_cons (y_tup (y_cons (y_c (.str "once")) (y_cons (y_op o_eq (y_fld (He.ga K "Run") "deeds" (y_var 0)) (y_fld (He.ga K "Run") "once" (y_var 0))) y_nil))) (y_cons (y_tup (y_cons (y_c (.str "anew")) (y_cons (y_op o_eq (y_fld (He.ga K "Run") "deeds" (y_var 0)) (y_fld (He.ga K "Run") "anew" (y_var 0))) y_nil))) (y_cons (y_tup (y_cons (y_c (.str "nothing")) (y_cons (y_op o_eq (y_fld (He.ga K "Run") "deeds" (y_var 0)) (y_tup y_nil)) y_nil))) y_nil)))) [some (.ref n), some x, some y, some z, none, none, none] (N ++ [MO.ins (He.ga K "Run") [("deeds", .tup A), ("once", .tup B), ("anew", .tup C)]]) = .ok (.tup [.tup [.str "once", .bl (eqT A B)], .tup [.str "anew", .bl (eqT A C)], .tup [.str "nothing", .bl (eqT A [])]]) (N ++ [MO.ins (He.ga K "Run") [("deeds", .tup A), ("once", .tup B), ("anew", .tup C)]]) := tup3_ok (tup2_ok (x := .str "once") rfl (op_ok (x := .tup A) (y := .tup B) (f _ _ rfl) (f _ _ rfl) (eqT_ok dA.sh.1 dB.sh.1 (by decide)))) (tup2_ok (x := .str "anew") rfl (op_ok (x := .tup A) (y := .tup C) (f _ _ rfl) (f _ _ rfl) (eqT_ok dA.sh.1 dC.sh.1 (by decide)))) (tup2_ok (x := .str "nothing") rfl (op_ok (x := .tup A) (y := .tup []) (f _ _ rfl) rfl (eqT_ok (k := 3) dA.sh.1 rfl (by decide))))
  refine seq_nx (asg_nx ea) ?_
  clear ea f
  have el : (y_lc (i_any (y_var 4)) (g_tup 2 (g_cons (g_nm 5) (g_cons (g_nm 6) g_nil))) (y_t (y_var 6)) (y_var 5) [5, 6]) [some (.ref n), some x, some y, some z, some (.tup [.tup [.str "once", .bl (eqT A B)], .tup [.str "anew", .bl (eqT A C)], .tup [.str "nothing", .bl (eqT A [])]]), none, none] (N ++ [MO.ins (He.ga K "Run") [("deeds", .tup A), ("once", .tup B), ("anew", .tup C)]]) = .ok (.lst (strsD (clsT A B C))) (N ++ [MO.ins (He.ga K "Run") [("deeds", .tup A), ("once", .tup B), ("anew", .tup C)]]) := by
    rw [e_lc, any_tup (ds := [(("once" : Str), eqT A B), ("anew", eqT A C), ("nothing", eqT A [])].map fun p : Str × Bool => D.tup [.str p.1, .bl p.2]) rfl, bd_ok]
    show (if ([(("once" : Str), eqT A B), ("anew", eqT A C), ("nothing", eqT A [])].map fun p : Str × Bool => D.tup [.str p.1, .bl p.2]).length < 16777216 then _ else _) = _
    rw [if_pos (by show 3 < 16777216; decide)]
    have key := lc_filt (yg := (g_tup 2 (g_cons (g_nm 5) (g_cons (g_nm 6) g_nil)))) (t := (y_t (y_var 6))) (e := (y_var 5)) (ρ := [some (.ref n), some x, some y, some z, some (.tup [.tup [.str "once", .bl (eqT A B)], .tup [.str "anew", .bl (eqT A C)], .tup [.str "nothing", .bl (eqT A [])]]), none, none]) (M := N ++ [MO.ins (He.ga K "Run") [("deeds", .tup A), ("once", .tup B), ("anew", .tup C)]]) (vs := [5, 6]) (G := gS (.tup ([(("once" : Str), eqT A B), ("anew", eqT A C), ("nothing", eqT A [])].map fun p : Str × Bool => D.tup [.str p.1, .bl p.2])) ([(("once" : Str), eqT A B), ("anew", eqT A C), ("nothing", eqT A [])].map fun p : Str × Bool => D.tup [.str p.1, .bl p.2])) (fun p : Str × Bool => D.tup [.str p.1, .bl p.2]) (fun p => p.2) (fun p => D.str p.1) rfl [("once", eqT A B), ("anew", eqT A C), ("nothing", eqT A [])] (fun p _ => ⟨_, rfl, t_ok rfl, fun _ => rfl⟩)
    show R.bd (R.nox (lcL _ _ _ _ _ _ ([(("once" : Str), eqT A B), ("anew", eqT A C), ("nothing", eqT A [])].map fun p : Str × Bool => D.tup [.str p.1, .bl p.2]) _)) _ = _
    rw [key, nox_ok, bd_ok]
    unfold clsT
    cases eqT A B <;> cases eqT A C <;> cases eqT A [] <;> rfl
  refine nx_sat (setF_nx (d := .tup (strsD (clsT A B C))) (tupL el) rfl hM) ?_
  show (N ++ [MO.ins (He.ga K "Run") [("deeds", .tup A), ("once", .tup B), ("anew", .tup C)]]).set n (MO.ins (He.ga K "Run") (RF A B C)) = _
  rw [hs]
mutual
theorem pyd_refl : ∀ d : D, PyData.eqv (_root_.Z.pyd d) (_root_.Z.pyd d) = true
  | .non => rfl
  | .bl b => by show (b == b) = true; exact beq_self_eq_true b
  | .int i => by show (i == i) = true; exact beq_self_eq_true i
  | .str s => by show (s == s) = true; exact beq_self_eq_true s
  | .tup ds => pydL_refl ds
  | .lst ds => pydL_refl ds
  | .fz ds => pydL_refl ds
  | .kt ds => pydL_refl ds
  | .ref _ => rfl
  | .glo _ => rfl
  | .ty _ => rfl
  | .dk _ => rfl
theorem pydL_refl : ∀ ds : List D, PyData.eqvAll (_root_.Z.pydL ds) (_root_.Z.pydL ds) = true
  | [] => rfl
  | d :: ds => by
    show (PyData.eqv (_root_.Z.pyd d) (_root_.Z.pyd d) && PyData.eqvAll (_root_.Z.pydL ds) (_root_.Z.pydL ds)) = true
    rw [pyd_refl d, pydL_refl ds]
    rfl
end
def eq3 (A B C A' B' C' : List D) : Bool := PyData.eqvAll (_root_.Z.pydL [.tup A, .tup B, .tup C]) (_root_.Z.pydL [.tup A', .tup B', .tup C'])
theorem sh3 {A B C : List D} (dA : Dds A) (dB : Dds B) (dC : Dds C) : ∀ d ∈ [D.tup A, .tup B, .tup C], Sh 3 95 d := List.forall_mem_cons.mpr ⟨dA.sh, List.forall_mem_cons.mpr ⟨dB.sh, List.forall_mem_singleton.mpr dC.sh⟩⟩
theorem run_eq {N : Mem} {r s : Nat} {A B C A' B' C' : List D} (dA : Dds A) (dB : Dds B) (dC : Dds C) (dA' : Dds A') (dB' : Dds B') (dC' : Dds C') (h1 : N[r]? = some (MO.ins (He.ga K "Run") (RF A B C))) (h2 : N[s]? = some (MO.ins (He.ga K "Run") (RF A' B' C'))) : y_Run_eq K [.ref r, .ref s] N = .ok (.bl (eq3 A B C A' B' C')) N := by
  rw [in_Run_eq, b_Run_eq]
  refine rt_of ?_
  have u : (y_tnot (y_t (y_cb (c_isiO (He.ga K "Run")) (y_cons (y_var 1) (y_cons (y_c (.glo (He.ga K "Run"))) y_nil))))) [some (.ref r), some (.ref s)] N = .ok false N := tnot_ok (b := true) (t_ok (cb2_ok (x := .ref s) (y := .glo (He.ga K "Run")) (r := (.bl true, N)) rfl rfl (by
    unfold c_isiO
    dsimp only
    rw [if_pos rfl, insC_at h2])))
  refine seq_nx (ifnx_no u) ?_
  refine ret_sat (d := .bl (eq3 A B C A' B' C')) ?_ ⟨rfl, rfl⟩
  exact op_ok (x := .tup [.tup A, .tup B, .tup C]) (y := .tup [.tup A', .tup B', .tup C']) (tup3_ok (fldV (n := r) rfl h1 rfl) (fldV (n := r) rfl h1 rfl) (fldV (n := r) rfl h1 rfl)) (tup3_ok (fldV (n := s) rfl h2 rfl) (fldV (n := s) rfl h2 rfl) (fldV (n := s) rfl h2 rfl)) (eqT_ok (Sh.tup (n := 3) (sh3 dA dB dC) (by show 3 ≤ 3; decide) (by decide)).1 (Sh.tup (n := 3) (sh3 dA' dB' dC') (by show 3 ≤ 3; decide) (by decide)).1 (by decide))
theorem run_no {N : Mem} {r : Nat} {d : D} {t : String} (hi : insC N d (He.ga K "Run") = none) (ht : tyN N d = some t) (hb : bTys.contains t = true) : y_Run_eq K [.ref r, d] N = .ok (.bl false) N := by
  rw [in_Run_eq, b_Run_eq]
  refine rt_of ?_
  have u : (y_tnot (y_t (y_cb (c_isiO (He.ga K "Run")) (y_cons (y_var 1) (y_cons (y_c (.glo (He.ga K "Run"))) y_nil))))) [some (.ref r), some d] N = .ok true N := tnot_ok (b := false) (t_ok (cb2_ok (x := d) (y := .glo (He.ga K "Run")) (r := (.bl false, N)) rfl rfl (by
    unfold c_isiO
    dsimp only
    rw [if_pos rfl, hi]
    dsimp only
    rw [ht]
    dsimp only
    rw [if_pos hb])))
  exact seq_th (fun _ _ => False) (if_yes u (ret_sat (d := .bl false) rfl ⟨rfl, rfl⟩)) (fun _ _ h => h.elim)
theorem mixed_val {N : Mem} {r : Nat} {A B C : List D} (h1 : N[r]? = some (MO.ins (He.ga K "Run") (RF A B C))) : y_Run_is_mixed K [.ref r] N = .ok (.bl (clsT A B C).isEmpty) N := by
  rw [in_Run_is_mixed, b_Run_is_mixed]
  refine rt_of (ret_sat (d := .bl (clsT A B C).isEmpty) (op_ok (x := .tup (strsD (clsT A B C))) (y := .tup []) (fldV (n := r) rfl h1 rfl) rfl ?_) ⟨rfl, rfl⟩)
  show some (D.bl (strsD (clsT A B C)).isEmpty) = _
  unfold strsD
  cases clsT A B C <;> rfl
theorem tupR {M : Mem} {n : Nat} {ds : List D} (h : M[n]? = some (.lst ds)) : c_tup [.ref n] M = some (.tup ds, M) := by
  show (asS M (.ref n)).map _ = _
  rw [asS_at h]
  rfl
theorem make_val {ρ : Sl} {N N1 : Mem} {As : YA} {x y z : D} {A B C : List D} (dA : Dds A) (dB : Dds B) (dC : Dds C) (ha : As ρ N = .ok [x, y, z] N1) (hx : ∀ o, c_tup [x] (N1 ++ [o]) = some (.tup A, N1 ++ [o])) (hy : ∀ o, c_tup [y] (N1 ++ [o]) = some (.tup B, N1 ++ [o])) (hz : ∀ o, c_tup [z] (N1 ++ [o]) = some (.tup C, N1 ++ [o])) : y_make (He.ga K "Run") (y_Run_init K) [] As ρ N = .ok (.ref N1.length) (N1 ++ [MO.ins (He.ga K "Run") (RF A B C)]) := by
  show (R.bd (As ρ N) _ : R D) = _
  rw [ha, bd_ok]
  show (R.bd (y_Run_init K [.ref N1.length, x, y, z] (N1 ++ [MO.ins (He.ga K "Run") []])) _ : R D) = _
  rw [run_init dA dB dC rfl (hx _) (fun _ => hy _) (fun _ => hz _), bd_ok]
theorem makeN_val {ρ : Sl} {N N1 : Mem} {Ks : YA} {x y z : D} {A B C : List D} (dA : Dds A) (dB : Dds B) (dC : Dds C) (ha : Ks ρ N = .ok [z, x, y] N1) (hx : ∀ o, c_tup [x] (N1 ++ [o]) = some (.tup A, N1 ++ [o])) (hy : ∀ o, c_tup [y] (N1 ++ [o]) = some (.tup B, N1 ++ [o])) (hz : ∀ o, c_tup [z] (N1 ++ [o]) = some (.tup C, N1 ++ [o])) : y_makeN (He.ga K "Run") 0 3 [1, 2, 0] (y_Run_init K) y_nil Ks ρ N = .ok (.ref N1.length) (N1 ++ [MO.ins (He.ga K "Run") (RF A B C)]) := by
  show (R.bd (R.ok [] N) _ : R D) = _
  rw [bd_ok]
  show (if ([] : List D).length = 0 then R.bd (Ks ρ N) _ else R.bad : R D) = _
  rw [if_pos (show ([] : List D).length = 0 from rfl), ha, bd_ok]
  show (if ([z, x, y] : List D).length = 3 then R.bd (y_Run_init K [.ref N1.length, x, y, z] (N1 ++ [MO.ins (He.ga K "Run") []])) _ else R.bad : R D) = _
  rw [if_pos (show ([z, x, y] : List D).length = 3 from rfl), run_init dA dB dC rfl (hx _) (fun _ => hy _) (fun _ => hz _), bd_ok]
theorem due_is (A B C : List D) : (List.replicate (if eqT A B = true then (1 : Int) else 0).toNat [D.str "once"]).flatten ++ (List.replicate (if eqT A C = true then (1 : Int) else 0).toNat [D.str "anew"]).flatten ++ (List.replicate (if eqT A [] = true then (1 : Int) else 0).toNat [D.str "nothing"]).flatten = strsD (clsT A B C) := by
  unfold clsT
  cases eqT A B <;> cases eqT A C <;> cases eqT A [] <;> rfl
theorem mul1 {ρ : Sl} {M : Mem} {E : YE} {w : Str} {b : Bool} (h : E ρ M = .ok (.bl b) M) : y_op o_mulL (y_lst (y_cons (y_c (.str w)) y_nil)) (y_cb c_int (y_cons E y_nil)) ρ M = .ok (.lst (List.replicate (if b = true then (1 : Int) else 0).toNat [D.str w]).flatten) M := op_ok (x := .lst [.str w]) (y := .int (if b = true then 1 else 0)) (lst1_ok rfl) (cb1_ok (x := .bl b) (r := (.int (if b = true then 1 else 0), M)) h (by cases b <;> rfl)) (by cases b <;> rfl)
theorem right_val {M : Mem} {h n : Nat} {o : MO} (hM : M[h]? = some o) (hb : Bag n o) (hn : n ≤ 500000) : ∃ N' o', y_right K [.ref h] M = .ok (.bl true) N' ∧ N'[h]? = some o' ∧ Bag (n + 400) o' := by
  suffices hs : (y_right K [.ref h] M).sat (fun d N' => d = .bl true ∧ ∃ o', N'[h]? = some o' ∧ Bag (n + 400) o') (fun _ _ _ => False) by
    obtain ⟨d, N', e, rfl, o', r⟩ := sat_ok hs
    exact ⟨N', o', e, r⟩
  have hl := m_lt hM
  rw [in_right, b_right]
  refine sat_fn ?_
  obtain ⟨a, ha⟩ : ∃ a, a = M.length := ⟨_, rfl⟩
  have fin : ∀ (N : Mem) (o' : MO), M.length ≤ N.length → N[h]? = some o' → Bag (n + 400) o' → (y_gc M (.ok (.bl true) N)).sat (fun d N' => d = .bl true ∧ ∃ o', N'[h]? = some o' ∧ Bag (n + 400) o') (fun _ _ _ => False) := fun N o' h1 h2 h3 => by
    obtain ⟨N', e, f, _⟩ := gc_any (d := .bl true) h1
    rw [e]
    exact ⟨rfl, o', (f h hl).trans h2, h3⟩
  obtain ⟨m, o0, e0, m0, m1, hb0⟩ := draw_ok (K := K) (m := 5) hM hb (by omega) (by decide) (by decide)
  obtain ⟨A, o1, e1, hb1, dA⟩ := deeds_ok (K := K) (v := 11) (E := (y_cons (y_call (y_draw K) (y_cons (y_var 0) (y_cons (y_c (.int 5)) y_nil))) y_nil)) (ρ := [some (.ref h), none, none, none, none, none, none, none, none, none, none, none]) (M := M) (m := m.toNat) (rng1_ok (call2_ok (x := .ref h) (y := .int 5) rfl rfl e0) (by omega) (by omega)) (by omega) (mg_set hl) hb0 (by omega) (fun _ => rfl)
  rw [List.set_set, List.length_set, ← ha] at e1
  refine seq_nx (asg_nx e1) ?_
  clear e0 e1 hb0
  have hA : (M.set h o1 ++ [MO.lst A])[a]? = some (.lst A) := by rw [ha, ← List.length_set (as := M) (i := h) (a := o1)]; exact mg_app0
  have hh : (M.set h o1 ++ [MO.lst A])[h]? = some o1 := mg_appO (mg_set hl)
  have hlen : (M.set h o1 ++ [MO.lst A]).length = a + 1 := by rw [List.length_append, List.length_set, ha]; rfl
  generalize M.set h o1 ++ [MO.lst A] = N1 at *
  have hah : a ≠ h := by omega
  obtain ⟨B, o2, e2, hb2, dB⟩ := other_ok (K := K) hh hb1 (by omega) hA dA hah
  have hlh := m_lt hh
  have hA2 : (N1.set h o2 ++ [MO.lst B])[a]? = some (.lst A) := mg_appO ((List.getElem?_set_ne (Ne.symm hah)).trans hA)
  have hh2 : (N1.set h o2 ++ [MO.lst B])[h]? = some o2 := mg_appO (mg_set hlh)
  have hB2 : (N1.set h o2 ++ [MO.lst B])[a + 1]? = some (.lst B) := by rw [← hlen, ← List.length_set (as := N1) (i := h) (a := o2)]; exact mg_app0
  have hlen2 : (N1.set h o2 ++ [MO.lst B]).length = a + 2 := by rw [List.length_append, List.length_set, hlen]; rfl
  rw [hlen] at e2
  generalize N1.set h o2 ++ [MO.lst B] = N2 at *
  obtain ⟨C, o3, e3, hb3, dC⟩ := other_ok (K := K) hh2 hb2 (by omega) hA2 dA hah
  have hlh2 := m_lt hh2
  have hA3 : (N2.set h o3 ++ [MO.lst C])[a]? = some (.lst A) := mg_appO ((List.getElem?_set_ne (Ne.symm hah)).trans hA2)
  have hB3 : (N2.set h o3 ++ [MO.lst C])[a + 1]? = some (.lst B) := mg_appO ((List.getElem?_set_ne (by omega)).trans hB2)
  have hh3 : (N2.set h o3 ++ [MO.lst C])[h]? = some o3 := mg_appO (mg_set hlh2)
  have hC3 : (N2.set h o3 ++ [MO.lst C])[a + 2]? = some (.lst C) := by rw [← hlen2, ← List.length_set (as := N2) (i := h) (a := o3)]; exact mg_app0
  have hlen3 : (N2.set h o3 ++ [MO.lst C]).length = a + 3 := by rw [List.length_append, List.length_set, hlen2]; rfl
  rw [hlen2] at e3
  generalize N2.set h o3 ++ [MO.lst C] = N3 at *
  refine seq_nx (par_nx (x := .ref (a + 1)) (y := .ref (a + 2)) (call2_ok (x := .ref h) (y := .ref a) rfl rfl e2) (call2_ok (x := .ref h) (y := .ref a) rfl rfl e3)) ?_
  clear e2 e3 hb1 hb2 hA hh hlen hA2 hh2 hB2 hlen2 hlh hlh2
  show (y_seq _ _ [some (.ref h), some (.ref a), some (.ref (a + 1)), some (.ref (a + 2)), none, none, none, none, none, none, none, none] N3).sat _
  have app : ∀ {i : Nat} {ds : List D} {N : Mem} (o : MO), N[i]? = some (.lst ds) → c_tup [.ref i] (N ++ [o]) = some (.tup ds, N ++ [o]) := fun o hi => tupR (mg_appO hi)
  have e4 := make_val (K := K) (ρ := [some (.ref h), some (.ref a), some (.ref (a + 1)), some (.ref (a + 2)), none, none, none, none, none, none, none, none]) (As := (y_cons (y_var 1) (y_cons (y_var 2) (y_cons (y_var 3) y_nil)))) (N := N3) (N1 := N3) (x := .ref a) (y := .ref (a + 1)) (z := .ref (a + 2)) dA dB dC rfl (fun o => app o hA3) (fun o => app o hB3) (fun o => app o hC3)
  rw [hlen3] at e4
  have hA4 : (N3 ++ [MO.ins (He.ga K "Run") (RF A B C)])[a]? = some (.lst A) := mg_appO hA3
  have hB4 : (N3 ++ [MO.ins (He.ga K "Run") (RF A B C)])[a + 1]? = some (.lst B) := mg_appO hB3
  have hC4 : (N3 ++ [MO.ins (He.ga K "Run") (RF A B C)])[a + 2]? = some (.lst C) := mg_appO hC3
  have hh4 : (N3 ++ [MO.ins (He.ga K "Run") (RF A B C)])[h]? = some o3 := mg_appO hh3
  have hr4 : (N3 ++ [MO.ins (He.ga K "Run") (RF A B C)])[a + 3]? = some (MO.ins (He.ga K "Run") (RF A B C)) := by rw [← hlen3]; exact mg_app0
  have hlen4 : (N3 ++ [MO.ins (He.ga K "Run") (RF A B C)]).length = a + 4 := by rw [List.length_append, hlen3]; rfl
  generalize N3 ++ [MO.ins (He.ga K "Run") (RF A B C)] = N4 at *
  obtain ⟨r, hr⟩ : ∃ r, r = a + 3 := ⟨_, rfl⟩
  rw [← hr] at e4 hr4
  have e5 : (y_lst (y_cons (y_cb c_tup (y_cons (y_var 1) y_nil)) (y_cons (y_cb c_tup (y_cons (y_var 2) y_nil)) (y_cons (y_cb c_tup (y_cons (y_var 3) y_nil)) y_nil)))) [some (.ref h), some (.ref a), some (.ref (a + 1)), some (.ref (a + 2)), none, none, none, none, none, none, none, none] N4 = .ok (.lst [.tup A, .tup B, .tup C]) N4 := lstV (consV (tupV rfl hA4) (consV (tupV rfl hB4) (consV (tupV rfl hC4) rfl))) (by show 3 ≤ 100; decide)
  obtain ⟨KD, hKD⟩ : ∃ KD : D, KD = .lst [.tup A, .tup B, .tup C] := ⟨_, rfl⟩
  rw [← hKD] at e5
  refine seq_nx (par_nx (x := .ref r) (y := KD) e4 e5) ?_
  clear e4 e5 hA3 hB3 hC3 hh3 hlen3
  show (y_seq _ _ [some (.ref h), some (.ref a), some (.ref (a + 1)), some (.ref (a + 2)), some (.ref r), some KD, none, none, none, none, none, none] N4).sat _
  have e6 := makeN_val (K := K) (ρ := [some (.ref h), some (.ref a), some (.ref (a + 1)), some (.ref (a + 2)), some (.ref r), some KD, none, none, none, none, none, none]) (Ks := (y_cons (y_cb c_tup (y_cons (y_var 3) y_nil)) (y_cons (y_cb c_tup (y_cons (y_var 1) y_nil)) (y_cons (y_cb c_lst (y_cons (y_var 2) y_nil)) y_nil)))) (N := N4) (N1 := N4) (x := .tup A) (y := .lst B) (z := .tup C) dA dB dC (consV (tupV rfl hC4) (consV (tupV rfl hA4) (consV (cb1_ok (x := .ref (a + 1)) (r := (.lst B, N4)) rfl (by
    show (asS N4 (.ref (a + 1))).map _ = _
    rw [asS_at hB4]
    rfl)) rfl))) (fun _ => rfl) (fun _ => rfl) (fun _ => rfl)
  rw [hlen4] at e6
  refine seq_nx (asg_nx e6) ?_
  clear e6
  have hA5 : (N4 ++ [MO.ins (He.ga K "Run") (RF A B C)])[a]? = some (.lst A) := mg_appO hA4
  have hB5 : (N4 ++ [MO.ins (He.ga K "Run") (RF A B C)])[a + 1]? = some (.lst B) := mg_appO hB4
  have hC5 : (N4 ++ [MO.ins (He.ga K "Run") (RF A B C)])[a + 2]? = some (.lst C) := mg_appO hC4
  have hh5 : (N4 ++ [MO.ins (He.ga K "Run") (RF A B C)])[h]? = some o3 := mg_appO hh4
  have hr5 : (N4 ++ [MO.ins (He.ga K "Run") (RF A B C)])[r]? = some (MO.ins (He.ga K "Run") (RF A B C)) := mg_appO hr4
  have hs5 : (N4 ++ [MO.ins (He.ga K "Run") (RF A B C)])[a + 4]? = some (MO.ins (He.ga K "Run") (RF A B C)) := by rw [← hlen4]; exact mg_app0
  have hlen5 : (N4 ++ [MO.ins (He.ga K "Run") (RF A B C)]).length = a + 5 := by rw [List.length_append, hlen4]; rfl
  generalize N4 ++ [MO.ins (He.ga K "Run") (RF A B C)] = N5 at *
  obtain ⟨r2, hr2⟩ : ∃ r2, r2 = a + 4 := ⟨_, rfl⟩
  rw [← hr2] at hs5 ⊢
  clear hA4 hB4 hC4 hh4 hr4 hlen4
  show (y_seq _ _ [some (.ref h), some (.ref a), some (.ref (a + 1)), some (.ref (a + 2)), some (.ref r), some KD, some (.ref r2), none, none, none, none, none] N5).sat _
  obtain ⟨E, o4, e7, hb4, dE⟩ := other_ok (K := K) hh5 hb3 (by omega) hA5 dA hah
  rw [hlen5] at e7
  refine seq_nx (asg_nx (call2_ok (x := .ref h) (y := .ref a) rfl rfl e7)) ?_
  clear e7
  have hlh5 := m_lt hh5
  have hA6 : (N5.set h o4 ++ [MO.lst E])[a]? = some (.lst A) := mg_appO ((List.getElem?_set_ne (Ne.symm hah)).trans hA5)
  have hB6 : (N5.set h o4 ++ [MO.lst E])[a + 1]? = some (.lst B) := mg_appO ((List.getElem?_set_ne (by omega)).trans hB5)
  have hC6 : (N5.set h o4 ++ [MO.lst E])[a + 2]? = some (.lst C) := mg_appO ((List.getElem?_set_ne (by omega)).trans hC5)
  have hh6 : (N5.set h o4 ++ [MO.lst E])[h]? = some o4 := mg_appO (mg_set hlh5)
  have hr6 : (N5.set h o4 ++ [MO.lst E])[r]? = some (MO.ins (He.ga K "Run") (RF A B C)) := mg_appO ((List.getElem?_set_ne (by omega)).trans hr5)
  have hs6 : (N5.set h o4 ++ [MO.lst E])[r2]? = some (MO.ins (He.ga K "Run") (RF A B C)) := mg_appO ((List.getElem?_set_ne (by omega)).trans hs5)
  have hE6 : (N5.set h o4 ++ [MO.lst E])[a + 5]? = some (.lst E) := by rw [← hlen5, ← List.length_set (as := N5) (i := h) (a := o4)]; exact mg_app0
  have hlen6 : (N5.set h o4 ++ [MO.lst E]).length = a + 6 := by rw [List.length_append, List.length_set, hlen5]; rfl
  generalize N5.set h o4 ++ [MO.lst E] = N6 at *
  clear hA5 hB5 hC5 hh5 hr5 hs5 hlen5 hlh5
  obtain ⟨c, hc⟩ : ∃ c, c = a + 5 := ⟨_, rfl⟩
  rw [← hc] at hE6 ⊢
  show (y_seq _ _ [some (.ref h), some (.ref a), some (.ref (a + 1)), some (.ref (a + 2)), some (.ref r), some KD, some (.ref r2), some (.ref c), none, none, none, none] N6).sat _
  have l1 : ty_l (.ref (a + 1)) (N6.set a (.lst (A ++ [.tup [.str "clear", .int 7, .str "z"]]))) = true := by
    unfold ty_l
    rw [asL_at ((List.getElem?_set_ne (by omega)).trans hB6)]
    rfl
  refine seq_nx (app_nx (n := a) (d := .tup [.str "clear", .int 7, .str "z"]) (M' := N6) rfl rfl hA6 hA6 (by have := dA.2; omega)) ?_
  have hB7 : (N6.set a (.lst (A ++ [.tup [.str "clear", .int 7, .str "z"]])))[a + 1]? = some (.lst B) := (List.getElem?_set_ne (by omega)).trans hB6
  have hC7 : (N6.set a (.lst (A ++ [.tup [.str "clear", .int 7, .str "z"]])))[a + 2]? = some (.lst C) := (List.getElem?_set_ne (by omega)).trans hC6
  have hh7 : (N6.set a (.lst (A ++ [.tup [.str "clear", .int 7, .str "z"]])))[h]? = some o4 := (List.getElem?_set_ne hah).trans hh6
  have hr7 : (N6.set a (.lst (A ++ [.tup [.str "clear", .int 7, .str "z"]])))[r]? = some (MO.ins (He.ga K "Run") (RF A B C)) := (List.getElem?_set_ne (by omega)).trans hr6
  have hs7 : (N6.set a (.lst (A ++ [.tup [.str "clear", .int 7, .str "z"]])))[r2]? = some (MO.ins (He.ga K "Run") (RF A B C)) := (List.getElem?_set_ne (by omega)).trans hs6
  have hE7 : (N6.set a (.lst (A ++ [.tup [.str "clear", .int 7, .str "z"]])))[c]? = some (.lst E) := (List.getElem?_set_ne (by omega)).trans hE6
  have hlen7 : (N6.set a (.lst (A ++ [.tup [.str "clear", .int 7, .str "z"]]))).length = a + 6 := by rw [List.length_set, hlen6]
  generalize N6.set a (.lst (A ++ [.tup [.str "clear", .int 7, .str "z"]])) = N7 at *
  refine seq_nx (drop_bm (x := .ref (a + 1)) (xs := []) (d := .non) (M1 := N7) (M2 := N7) (M3 := N7.set (a + 1) (.lst [])) rfl l1 rfl (by
    unfold m_clear
    dsimp only
    rw [hB7])) ?_
  have hC8 : (N7.set (a + 1) (.lst []))[a + 2]? = some (.lst C) := (List.getElem?_set_ne (by omega)).trans hC7
  have hh8 : (N7.set (a + 1) (.lst []))[h]? = some o4 := (List.getElem?_set_ne (by omega)).trans hh7
  have hr8 : (N7.set (a + 1) (.lst []))[r]? = some (MO.ins (He.ga K "Run") (RF A B C)) := (List.getElem?_set_ne (by omega)).trans hr7
  have hs8 : (N7.set (a + 1) (.lst []))[r2]? = some (MO.ins (He.ga K "Run") (RF A B C)) := (List.getElem?_set_ne (by omega)).trans hs7
  have hE8 : (N7.set (a + 1) (.lst []))[c]? = some (.lst E) := (List.getElem?_set_ne (by omega)).trans hE7
  have hlen8 : (N7.set (a + 1) (.lst [])).length = a + 6 := by rw [List.length_set, hlen7]
  generalize N7.set (a + 1) (.lst []) = N8 at *
  have l2 : ty_l (.ref (a + 2)) N8 = true := by
    unfold ty_l
    rw [asL_at hC8]
    rfl
  refine seq_nx (drop_bm (x := .ref (a + 2)) (xs := [.int 0, .tup [.str "tell", .str "z", .tup []]]) (d := .non) (M1 := N8) (M2 := N8) (M3 := N8.set (a + 2) (.lst (C.take (0 : Int).toNat ++ [.tup [.str "tell", .str "z", .tup []]] ++ C.drop (0 : Int).toNat))) rfl l2 rfl (by
    unfold m_insert
    dsimp only
    rw [hC8]
    dsimp only
    rw [if_pos ⟨by have := dC.2; omega, by decide, by decide⟩])) ?_
  have hh9 : (N8.set (a + 2) (.lst (C.take (0 : Int).toNat ++ [.tup [.str "tell", .str "z", .tup []]] ++ C.drop (0 : Int).toNat)))[h]? = some o4 := (List.getElem?_set_ne (by omega)).trans hh8
  have hr9 : (N8.set (a + 2) (.lst (C.take (0 : Int).toNat ++ [.tup [.str "tell", .str "z", .tup []]] ++ C.drop (0 : Int).toNat)))[r]? = some (MO.ins (He.ga K "Run") (RF A B C)) := (List.getElem?_set_ne (by omega)).trans hr8
  have hs9 : (N8.set (a + 2) (.lst (C.take (0 : Int).toNat ++ [.tup [.str "tell", .str "z", .tup []]] ++ C.drop (0 : Int).toNat)))[r2]? = some (MO.ins (He.ga K "Run") (RF A B C)) := (List.getElem?_set_ne (by omega)).trans hs8
  have hE9 : (N8.set (a + 2) (.lst (C.take (0 : Int).toNat ++ [.tup [.str "tell", .str "z", .tup []]] ++ C.drop (0 : Int).toNat)))[c]? = some (.lst E) := (List.getElem?_set_ne (by omega)).trans hE8
  have hlen9 : (N8.set (a + 2) (.lst (C.take (0 : Int).toNat ++ [.tup [.str "tell", .str "z", .tup []]] ++ C.drop (0 : Int).toNat))).length = a + 6 := by rw [List.length_set, hlen8]
  generalize N8.set (a + 2) (.lst (C.take (0 : Int).toNat ++ [.tup [.str "tell", .str "z", .tup []]] ++ C.drop (0 : Int).toNat)) = N9 at *
  clear hA6 hB6 hC6 hh6 hr6 hs6 hE6 hlen6 hB7 hC7 hh7 hr7 hs7 hE7 hlen7 hC8 hh8 hr8 hs8 hE8 hlen8 l1 l2
  have sK : Sh 4 300 (.lst [.tup A, .tup B, .tup C]) := (Sh.lst (n := 3) (sh3 dA dB dC) (by show 3 ≤ 3; decide) (by decide)).mono (by decide) (by decide)
  have xK : ∀ N, xpN N 4 KD = .lst [.tup A, .tup B, .tup C] := fun N => by rw [hKD]; exact xpN_data sK.1
  have eL : ∀ (N : Mem) (ρ : Sl), ρ[4]? = some (some (.ref r)) → N[r]? = some (MO.ins (He.ga K "Run") (RF A B C)) → (y_lst (y_cons (y_fld (He.ga K "Run") "deeds" (y_var 4)) (y_cons (y_fld (He.ga K "Run") "once" (y_var 4)) (y_cons (y_fld (He.ga K "Run") "anew" (y_var 4)) y_nil)))) ρ N = .ok (.lst [.tup A, .tup B, .tup C]) N := fun N ρ h4 hN => lstV (consV (fldV (n := r) (var_ok h4) hN rfl) (consV (fldV (n := r) (var_ok h4) hN rfl) (consV (fldV (n := r) (var_ok h4) hN rfl) rfl))) (by show 3 ≤ 100; decide)
  have u1 : (y_t (y_op o_ne (y_cb c_repr (y_cons (y_lst (y_cons (y_fld (He.ga K "Run") "deeds" (y_var 4)) (y_cons (y_fld (He.ga K "Run") "once" (y_var 4)) (y_cons (y_fld (He.ga K "Run") "anew" (y_var 4)) y_nil)))) y_nil)) (y_cb c_repr (y_cons (y_var 5) y_nil)))) [some (.ref h), some (.ref a), some (.ref (a + 1)), some (.ref (a + 2)), some (.ref r), some KD, some (.ref r2), some (.ref c), none, none, none, none] N9 = .ok false N9 := ne_repr sK (eL N9 _ rfl hr9) (xpN_data sK.1) (y := KD) rfl (xK N9)
  refine seq_nx (ifnx_no u1) ?_
  clear u1
  have k0 : ∀ (i : Nat) (d : D), [D.tup A, .tup B, .tup C][i]? = some d → ∀ ρ : Sl, ρ[5]? = some (some KD) → y_op o_ix (y_var 5) (y_c (.int (i : Int))) ρ N9 = .ok d N9 := fun i d hd ρ hr => by
    refine op_ok (x := KD) (y := .int (i : Int)) (var_ok hr) rfl ?_
    rw [hKD]
    have := ix_seq (M := N9) (x := .lst [.tup A, .tup B, .tup C]) (ds := [.tup A, .tup B, .tup C]) (j := i) rfl hd
    rwa [Int.zero_add] at this
  have q1 := mul1 (ρ := [some (.ref h), some (.ref a), some (.ref (a + 1)), some (.ref (a + 2)), some (.ref r), some KD, some (.ref r2), some (.ref c), none, none, none, none]) (M := N9) (w := "once") (op_ok (k0 0 _ rfl _ rfl) (k0 1 _ rfl _ rfl) (eqT_ok dA.sh.1 dB.sh.1 (by decide)))
  have q2 := mul1 (ρ := [some (.ref h), some (.ref a), some (.ref (a + 1)), some (.ref (a + 2)), some (.ref r), some KD, some (.ref r2), some (.ref c), none, none, none, none]) (M := N9) (w := "anew") (op_ok (k0 0 _ rfl _ rfl) (k0 2 _ rfl _ rfl) (eqT_ok dA.sh.1 dC.sh.1 (by decide)))
  have ln : ∀ (b : Bool) (w : Str), (List.replicate (if b = true then (1 : Int) else 0).toNat [D.str w]).flatten.length ≤ 1 := fun b w => by cases b <;> simp
  have q12 := addV q1 q2 rfl rfl (.inr ⟨_, rfl⟩) (by have := ln (eqT A B) "once"; have := ln (eqT A C) "anew"; omega)
  refine seq_nx (asg_nx q12) ?_
  clear q1 q2 q12
  obtain ⟨D12, h12⟩ : ∃ D12, D12 = (List.replicate (if eqT A B = true then (1 : Int) else 0).toNat [D.str "once"]).flatten ++ (List.replicate (if eqT A C = true then (1 : Int) else 0).toNat [D.str "anew"]).flatten := ⟨_, rfl⟩
  have l12 : D12.length ≤ 2 := by
    rw [h12, List.length_append]
    have := ln (eqT A B) "once"
    have := ln (eqT A C) "anew"
    omega
  rw [← h12]
  show (y_seq _ _ [some (.ref h), some (.ref a), some (.ref (a + 1)), some (.ref (a + 2)), some (.ref r), some KD, some (.ref r2), some (.ref c), some (.lst D12), none, none, none] N9).sat _
  have q3 := mul1 (ρ := [some (.ref h), some (.ref a), some (.ref (a + 1)), some (.ref (a + 2)), some (.ref r), some KD, some (.ref r2), some (.ref c), some (.lst D12), none, none, none]) (M := N9) (w := "nothing") (op_ok (F := y_tup y_nil) (y := .tup []) (k0 0 _ rfl _ rfl) rfl (eqT_ok (k := 3) dA.sh.1 rfl (by decide)))
  have q4 := addV (E := y_var 8) (x := .lst D12) rfl q3 rfl rfl (.inr ⟨_, rfl⟩) (by have := ln (eqT A []) "nothing"; omega)
  rw [h12, due_is] at q4
  rw [h12]
  refine seq_nx (asg_nx q4) ?_
  clear q3 q4 h12 l12
  obtain ⟨CL, hCL⟩ : ∃ CL, CL = D.lst (strsD (clsT A B C)) := ⟨_, rfl⟩
  rw [← hCL]
  show (y_seq _ _ [some (.ref h), some (.ref a), some (.ref (a + 1)), some (.ref (a + 2)), some (.ref r), some KD, some (.ref r2), some (.ref c), some CL, none, none, none] N9).sat _
  have tc : ∀ (N : Mem) (ρ : Sl), ρ[8]? = some (some CL) → y_cb c_tup (y_cons (y_var 8) y_nil) ρ N = .ok (.tup (strsD (clsT A B C))) N := fun N ρ h8 => tupL (by rw [var_ok h8, hCL])
  have sC := cls_sh A B C
  have u2 : (y_tor (y_t (y_op o_ne (y_cb c_repr (y_cons (y_fld (He.ga K "Run") "classes" (y_var 4)) y_nil)) (y_cb c_repr (y_cons (y_cb c_tup (y_cons (y_var 8) y_nil)) y_nil)))) (y_t (y_op o_ne (y_cb c_repr (y_cons (y_prop (He.ga K "Run") (y_Run_is_mixed K) (y_var 4)) y_nil)) (y_cb c_repr (y_cons (y_op o_eq (y_var 8) (y_lst y_nil)) y_nil))))) [some (.ref h), some (.ref a), some (.ref (a + 1)), some (.ref (a + 2)), some (.ref r), some KD, some (.ref r2), some (.ref c), some CL, none, none, none] N9 = .ok false N9 := by
    refine tor_no (ne_repr sC (fldV (n := r) rfl hr9 rfl) (xpN_data sC.1) (tc N9 _ rfl) (xpN_data sC.1)) ?_
    refine ne_repr (Sh.bl (k := 0) (b := 0) (x := (clsT A B C).isEmpty)) (x := .bl (clsT A B C).isEmpty) (M1 := N9) ?_ rfl (y := .bl (clsT A B C).isEmpty) ?_ rfl
    · show (R.bd (R.ok (D.ref r) N9) _ : R D) = _
      rw [bd_ok]
      show (match insC N9 (.ref r) (He.ga K "Run") with
        | some _ => (y_Run_is_mixed K [.ref r] N9).nox
        | none => R.bad) = _
      rw [insC_at hr9]
      dsimp only
      rw [mixed_val hr9]
      rfl
    · refine op_ok (x := CL) (y := .lst []) rfl rfl ?_
      rw [hCL]
      show some (D.bl (strsD (clsT A B C)).isEmpty) = _
      unfold strsD
      cases clsT A B C <;> rfl
  refine seq_nx (ifnx_no u2) ?_
  clear u2
  have e33 : eq3 A B C A B C = true := pydL_refl _
  have eR := run_eq (K := K) (N := N9) dA dB dC dA dB dC hr9 hs9
  rw [e33] at eR
  have u3 : (y_tor (y_tnot (y_t (y_opR (o_eqO (He.ga K "Run") (He.ga K "Run") (y_Run_eq K)) (y_var 4) (y_var 6)))) (y_tor (y_t (y_opR (o_neO (He.ga K "Run") (He.ga K "Run") (y_Run_eq K)) (y_var 4) (y_var 6))) (y_tor (y_t (y_opR (o_eqX (He.ga K "Run") [] (y_Run_eq K)) (y_var 4) (y_var 5))) (y_t (y_opR (o_eqX (He.ga K "Run") [] (y_Run_eq K)) (y_var 4) (y_c (.int 0))))))) [some (.ref h), some (.ref a), some (.ref (a + 1)), some (.ref (a + 2)), some (.ref r), some KD, some (.ref r2), some (.ref c), some CL, none, none, none] N9 = .ok false N9 := by
    obtain ⟨b1, b2, b3, b4, b5, b6⟩ := b_types
    refine tor_no (tnot_ok (b := true) (t_ok (opR_ok (x := .ref r) (y := .ref r2) rfl rfl (eqO_at (insC_at hr9) (insC_at hs9) eR)))) (tor_no (t_ok (opR_ok (x := .ref r) (y := .ref r2) rfl rfl (by
      unfold o_neO
      rw [insC_at hr9, insC_at hs9]
      dsimp only
      rw [eR, bd_ok]
      rfl))) (tor_no (t_ok (opR_ok (x := .ref r) (y := KD) rfl rfl (eqX_at (insC_at hr9) (by rw [hKD]; rfl) (run_no (t := "list") (by rw [hKD]; rfl) (by rw [hKD]; rfl) b2)))) (t_ok (opR_ok (x := .ref r) (y := .int 0) rfl rfl (eqX_at (insC_at hr9) rfl (run_no (t := "int") rfl rfl b3))))))
  refine seq_nx (ifnx_no u3) ?_
  clear u3 eR
  have hl69 : M.length ≤ N9.length := by omega
  refine seq_th (fun ρ' N' => ∃ x9 x10 x11, ρ' = [some (.ref h), some (.ref a), some (.ref (a + 1)), some (.ref (a + 2)), some (.ref r), some KD, some (.ref r2), some (.ref c), some CL, x9, x10, x11] ∧ ∃ Xs, N' = N9 ++ Xs) (for_at (rng1_ok (n := 3) rfl (by decide) (by decide)) ?_) ?_
  · refine for_inv _ (fun _ ρ' N' => ∃ x9 x10 x11, ρ' = [some (.ref h), some (.ref a), some (.ref (a + 1)), some (.ref (a + 2)), some (.ref r), some KD, some (.ref r2), some (.ref c), some CL, x9, x10, x11] ∧ ∃ Xs, N' = N9 ++ Xs) ⟨_, _, _, rfl, [], (List.append_nil _).symm⟩ (fun _ _ _ _ => trivial) ?_ (fun _ _ h => h)
    rintro j d ρ' N' hd ⟨x9, x10, x11, rfl, Xs, rfl⟩
    obtain ⟨hj, rfl⟩ := rngD_get hd
    have hj : j < 3 := hj
    refine nm_th ?_
    show (y_seq _ _ [some (.ref h), some (.ref a), some (.ref (a + 1)), some (.ref (a + 2)), some (.ref r), some KD, some (.ref r2), some (.ref c), some CL, some (.int (0 + (j : Int))), x10, x11] _).sat _
    have hrN : (N9 ++ Xs)[r]? = some (MO.ins (He.ga K "Run") (RF A B C)) := mg_appO hr9
    have hEN : (N9 ++ Xs)[c]? = some (.lst E) := mg_appO hE9
    generalize hNN : N9 ++ Xs = NN at *
    have e1 : (y_cb c_lstM (y_cons (y_var 5) y_nil)) [some (.ref h), some (.ref a), some (.ref (a + 1)), some (.ref (a + 2)), some (.ref r), some KD, some (.ref r2), some (.ref c), some CL, some (.int (0 + (j : Int))), x10, x11] NN = .ok (.ref NN.length) (NN ++ [MO.lst [.tup A, .tup B, .tup C]]) := cb1_ok (x := KD) (r := (.ref NN.length, NN ++ [MO.lst [.tup A, .tup B, .tup C]])) rfl (by rw [hKD]; rfl)
    refine seq_nx (asg_nx e1) ?_
    clear e1
    obtain ⟨p, hp⟩ : ∃ p, p = NN.length := ⟨_, rfl⟩
    rw [← hp]
    show (y_seq _ _ [some (.ref h), some (.ref a), some (.ref (a + 1)), some (.ref (a + 2)), some (.ref r), some KD, some (.ref r2), some (.ref c), some CL, some (.int (0 + (j : Int))), some (.ref p), x11] _).sat _
    have hpN : (NN ++ [MO.lst [.tup A, .tup B, .tup C]])[p]? = some (.lst [.tup A, .tup B, .tup C]) := by rw [hp]; exact mg_app0
    have eE : y_cb c_tup (y_cons (y_var 7) y_nil) [some (.ref h), some (.ref a), some (.ref (a + 1)), some (.ref (a + 2)), some (.ref r), some KD, some (.ref r2), some (.ref c), some CL, some (.int (0 + (j : Int))), some (.ref p), x11] (NN ++ [MO.lst [.tup A, .tup B, .tup C]]) = .ok (.tup E) (NN ++ [MO.lst [.tup A, .tup B, .tup C]]) := tupV rfl (mg_appO hEN)
    have hset : ∀ ds, (NN ++ [MO.lst [.tup A, .tup B, .tup C]]).set p (.lst ds) = NN ++ [MO.lst ds] := fun ds => by rw [hp]; exact set_last
    have parts : ∃ A' B' C', Dds A' ∧ Dds B' ∧ Dds C' ∧ [D.tup A, .tup B, .tup C].set j (.tup E) = [.tup A', .tup B', .tup C'] := by
      have : j = 0 ∨ j = 1 ∨ j = 2 := by omega
      rcases this with rfl | rfl | rfl
      · exact ⟨E, B, C, dE, dB, dC, rfl⟩
      · exact ⟨A, E, C, dA, dE, dC, rfl⟩
      · exact ⟨A, B, E, dA, dB, dE, rfl⟩
    obtain ⟨A', B', C', dA', dB', dC', hps⟩ := parts
    have eS : (y_asg (y_cb c_tup (y_cons (y_var 7) y_nil)) (g_setL (y_var 10) (y_var 9))) [some (.ref h), some (.ref a), some (.ref (a + 1)), some (.ref (a + 2)), some (.ref r), some KD, some (.ref r2), some (.ref c), some CL, some (.int (0 + (j : Int))), some (.ref p), x11] (NN ++ [MO.lst [.tup A, .tup B, .tup C]]) = .nx [some (.ref h), some (.ref a), some (.ref (a + 1)), some (.ref (a + 2)), some (.ref r), some KD, some (.ref r2), some (.ref c), some CL, some (.int (0 + (j : Int))), some (.ref p), x11] (NN ++ [MO.lst [.tup A', .tup B', .tup C']]) := by
      rw [e_asg, eE, bs_ok]
      show nxO (match (NN ++ [MO.lst [.tup A, .tup B, .tup C]])[p]? with
        | some (.lst ds) => (ixN ds.length (0 + (j : Int))).map fun i => ([some (.ref h), some (.ref a), some (.ref (a + 1)), some (.ref (a + 2)), some (.ref r), some KD, some (.ref r2), some (.ref c), some CL, some (.int (0 + (j : Int))), some (.ref p), x11], (NN ++ [MO.lst [.tup A, .tup B, .tup C]]).set p (.lst (ds.set i (.tup E))))
        | _ => none) = _
      rw [hpN]
      dsimp only
      have hix : ixN [D.tup A, .tup B, .tup C].length (0 + (j : Int)) = some j := by
        unfold ixN
        rw [if_pos (by omega), if_pos (by show 0 + (j : Int) < 3; omega)]
        congr 1
        omega
      rw [hix, Option.map_some, hps, hset]
      rfl
    refine seq_nx eS ?_
    clear eS eE
    have hpM : (NN ++ [MO.lst [.tup A', .tup B', .tup C']])[p]? = some (.lst [.tup A', .tup B', .tup C']) := by rw [hp]; exact mg_app0
    have hrM : (NN ++ [MO.lst [.tup A', .tup B', .tup C']])[r]? = some (MO.ins (He.ga K "Run") (RF A B C)) := mg_appO hrN
    have hex : ∃ Ys, NN ++ [MO.lst [.tup A', .tup B', .tup C']] = N9 ++ Ys := ⟨Xs ++ [MO.lst [.tup A', .tup B', .tup C']], by rw [← hNN, List.append_assoc]⟩
    generalize NN ++ [MO.lst [.tup A', .tup B', .tup C']] = NM at *
    have ix : ∀ (i : Nat) (d : D), [D.tup A', .tup B', .tup C'][i]? = some d → y_op o_ix (y_var 10) (y_c (.int (i : Int))) [some (.ref h), some (.ref a), some (.ref (a + 1)), some (.ref (a + 2)), some (.ref r), some KD, some (.ref r2), some (.ref c), some CL, some (.int (0 + (j : Int))), some (.ref p), x11] NM = .ok d NM := fun i d hd => by
      have := ix_seq (M := NM) (x := .ref p) (j := i) (asS_at hpM) hd
      rw [Int.zero_add] at this
      exact op_ok (x := .ref p) (y := .int (i : Int)) rfl rfl this
    have em := make_val (K := K) (ρ := [some (.ref h), some (.ref a), some (.ref (a + 1)), some (.ref (a + 2)), some (.ref r), some KD, some (.ref r2), some (.ref c), some CL, some (.int (0 + (j : Int))), some (.ref p), x11]) (As := (y_cons (y_op o_ix (y_var 10) (y_c (.int 0))) (y_cons (y_op o_ix (y_var 10) (y_c (.int 1))) (y_cons (y_op o_ix (y_var 10) (y_c (.int 2))) y_nil)))) (N := NM) (N1 := NM) (x := .tup A') (y := .tup B') (z := .tup C') dA' dB' dC' (consV (ix 0 _ rfl) (consV (ix 1 _ rfl) (consV (ix 2 _ rfl) rfl))) (fun _ => rfl) (fun _ => rfl) (fun _ => rfl)
    have hrQ : (NM ++ [MO.ins (He.ga K "Run") (RF A' B' C')])[r]? = some (MO.ins (He.ga K "Run") (RF A B C)) := mg_appO hrM
    have hsQ : (NM ++ [MO.ins (He.ga K "Run") (RF A' B' C')])[NM.length]? = some (MO.ins (He.ga K "Run") (RF A' B' C')) := mg_app0
    have hpQ : (NM ++ [MO.ins (He.ga K "Run") (RF A' B' C')])[p]? = some (.lst [.tup A', .tup B', .tup C']) := mg_appO hpM
    have hexQ : ∃ Ys, NM ++ [MO.ins (He.ga K "Run") (RF A' B' C')] = N9 ++ Ys := by
      obtain ⟨Ys, hY⟩ := hex
      exact ⟨Ys ++ [MO.ins (He.ga K "Run") (RF A' B' C')], by rw [hY, List.append_assoc]⟩
    have eq := run_eq (K := K) (N := NM ++ [MO.ins (He.ga K "Run") (RF A' B' C')]) dA dB dC dA' dB' dC' hrQ hsQ
    have ek : o_eq (.ref p) KD (NM ++ [MO.ins (He.ga K "Run") (RF A' B' C')]) = some (.bl (eq3 A B C A' B' C')) := by
      rw [hKD]
      show (eqG (NM ++ [MO.ins (He.ga K "Run") (RF A' B' C')]) (.ref p) (.lst [.tup A, .tup B, .tup C])).map D.bl = _
      have d1 : dat 4 (.lst [.tup A', .tup B', .tup C']) = true := (Sh.lst (n := 3) (sh3 dA' dB' dC') (by show 3 ≤ 3; decide) (by decide)).1
      have x1 : xpN (NM ++ [MO.ins (He.ga K "Run") (RF A' B' C')]) 4 (.ref p) = .lst [.tup A', .tup B', .tup C'] := by
        show xpN (NM ++ [MO.ins (He.ga K "Run") (RF A' B' C')]) 3 (xp (NM ++ [MO.ins (He.ga K "Run") (RF A' B' C')]) (.ref p)) = _
        rw [show xp (NM ++ [MO.ins (He.ga K "Run") (RF A' B' C')]) (.ref p) = .lst [.tup A', .tup B', .tup C'] from by
          unfold xp
          rw [hpQ]]
        exact xpN_data d1
      unfold eqG
      rw [x1, xpN_data sK.1, _root_.Z.dat_le d1 (by decide), _root_.Z.dat_le sK.1 (by decide)]
      show some (D.bl (PyData.eqvAll (_root_.Z.pydL [.tup A', .tup B', .tup C']) (_root_.Z.pydL [.tup A, .tup B, .tup C]))) = _
      rw [PySem.W.eqvAll_comm]
      rfl
    have u : (y_t (y_op o_ne (y_opR (o_eqO (He.ga K "Run") (He.ga K "Run") (y_Run_eq K)) (y_var 4) (y_make (He.ga K "Run") (y_Run_init K) [] (y_cons (y_op o_ix (y_var 10) (y_c (.int 0))) (y_cons (y_op o_ix (y_var 10) (y_c (.int 1))) (y_cons (y_op o_ix (y_var 10) (y_c (.int 2))) y_nil))))) (y_op o_eq (y_var 10) (y_var 5)))) [some (.ref h), some (.ref a), some (.ref (a + 1)), some (.ref (a + 2)), some (.ref r), some KD, some (.ref r2), some (.ref c), some CL, some (.int (0 + (j : Int))), some (.ref p), x11] NM = .ok false (NM ++ [MO.ins (He.ga K "Run") (RF A' B' C')]) := t_ok (op_ok (x := .bl (eq3 A B C A' B' C')) (y := .bl (eq3 A B C A' B' C')) (opR_ok (x := .ref r) (y := .ref NM.length) rfl em (eqO_at (insC_at hrQ) (insC_at hsQ) eq)) (op_ok (x := .ref p) (y := KD) rfl rfl ek) (by cases eq3 A B C A' B' C' <;> rfl))
    exact nx_sat (ifnx_no u) ⟨_, _, _, rfl, hexQ⟩
  rintro ρ' N' ⟨x9, x10, x11, rfl, Xs, rfl⟩
  have hrX : (N9 ++ Xs)[r]? = some (MO.ins (He.ga K "Run") (RF A B C)) := mg_appO hr9
  have u4 : (y_t (y_op o_ne (y_cb c_repr (y_cons (y_fld (He.ga K "Run") "classes" (y_var 4)) y_nil)) (y_cb c_repr (y_cons (y_cb c_tup (y_cons (y_var 8) y_nil)) y_nil)))) [some (.ref h), some (.ref a), some (.ref (a + 1)), some (.ref (a + 2)), some (.ref r), some KD, some (.ref r2), some (.ref c), some CL, x9, x10, x11] (N9 ++ Xs) = .ok false (N9 ++ Xs) := ne_repr sC (fldV (n := r) rfl hrX rfl) (xpN_data sC.1) (tc _ _ rfl) (xpN_data sC.1)
  refine seq_nx (ifnx_no u4) ?_
  refine ret_sat (d := .bl true) (M' := N9 ++ Xs) (eq_repr sK (eL (N9 ++ Xs) _ rfl hrX) (xpN_data sK.1) (y := KD) rfl (xK _)) ?_
  exact fin _ o4 (by rw [List.length_append]; omega) (mg_appO hh9) (hb4.mono (by omega))
theorem law_true0 (kx : Kx K) (ns : List Int) (hl : ns.length ≤ 63) : ∃ M', y_law K [.fz (ns.map D.int)] [] = .ok (.bl true) M' := by
  suffices hh : (y_law K [.fz (ns.map D.int)] []).sat (fun d N => d = .bl true) (fun _ _ _ => False) by
    obtain ⟨d, N, e, rfl⟩ := sat_ok hh
    exact ⟨N, e⟩
  obtain ⟨c, hc, hc3⟩ : ∃ c : Nat, ((if (if (ns.length : Int) < 4 then (ns.length : Int) else 4) > 1 then (if (ns.length : Int) < 4 then (ns.length : Int) else 4) else 1) = (c : Int)) ∧ c ≤ 4 := by
    by_cases h1 : (ns.length : Int) < 4
    · rw [if_pos h1]
      by_cases h2 : (ns.length : Int) > 1
      · rw [if_pos h2]
        exact ⟨ns.length, rfl, by omega⟩
      · rw [if_neg h2]
        exact ⟨1, rfl, by omega⟩
    · rw [if_neg h1, if_pos (by decide)]
      exact ⟨4, rfl, by omega⟩
  have hE : (y_cb c_max2 (y_cons (y_c (.int 1)) (y_cons (y_cb c_min2 (y_cons (y_c (.int 4)) (y_cons (y_cb c_len (y_cons (y_var 0) y_nil)) y_nil))) y_nil))) [some (.fz (ns.map D.int)), none, none, none] [] = .ok (.int (c : Int)) [] := by
    have l1 : y_cb c_len (y_cons (y_var 0) y_nil) [some (.fz (ns.map D.int)), none, none, none] [] = .ok (.int (ns.length : Int)) [] := by
      show R.ok (D.int ((ns.map D.int).length : Int)) [] = _
      rw [List.length_map]
    rw [← hc]
    exact cb2_ok (r := (_, _)) rfl (cb2_ok (r := (_, _)) rfl l1 rfl) rfl
  rw [in_law, b_law]
  refine sat_fn (seq_th (fun ρ' N => True) (for_at (rng1_ok hE (by omega) (by omega)) ?_) ?_)
  · rw [Int.toNat_natCast]
    refine for_inv _ (fun k ρ' N' => ∃ x1 x2 x3, ρ' = [some (.fz (ns.map D.int)), x1, x2, x3]) ⟨_, _, _, rfl⟩ (fun _ _ _ _ => trivial) ?_ (fun _ _ _ => trivial)
    rintro k d ρ' N' hd ⟨x1, x2, x3, rfl⟩
    obtain ⟨hk, rfl⟩ := rngD_get hd
    refine nm_th ?_
    show (y_seq _ _ [some (.fz (ns.map D.int)), some (.int (0 + (k : Int))), x2, x3] N').sat _
    obtain ⟨o, eb, bg⟩ := source_ok (K := K) (M := N') (ns := ns) (k := 0 + (k : Int)) (by omega) (by omega) hl
    refine seq_nx (asg_nx (call2_ok (x := .fz (ns.map D.int)) (y := .int (0 + (k : Int))) rfl rfl eb)) ?_
    have hM1 : (N' ++ [o])[N'.length]? = some o := mg_app0
    clear eb
    generalize N'.length = h at *
    generalize N' ++ [o] = M1 at *
    show (y_for _ _ _ [some (.fz (ns.map D.int)), some (.int (0 + (k : Int))), some (.ref h), x3] M1).sat _
    refine for_at (rng1_ok (n := 4) rfl (by decide) (by decide)) ?_
    refine for_inv _ (fun j ρ' N' => ∃ x3 o', ρ' = [some (.fz (ns.map D.int)), some (.int (0 + (k : Int))), some (.ref h), x3] ∧ N'[h]? = some o' ∧ Bag (400 * j) o' ∧ j ≤ 4) ⟨_, o, rfl, hM1, bg, by decide⟩ (fun _ _ _ _ => trivial) ?_ ?_
    · rintro j d ρ' N' hd ⟨x3, o', rfl, hM, hb, _⟩
      obtain ⟨hj, rfl⟩ := rngD_get hd
      have hj : j < 4 := hj
      refine nm_th ?_
      show (y_if _ _ _ [some (.fz (ns.map D.int)), some (.int (0 + (k : Int))), some (.ref h), some (.int (0 + (j : Int)))] N').sat _
      obtain ⟨N2, o2, e, hM2, hb2⟩ := right_val (K := K) hM hb (by omega)
      exact nx_sat (ifnx_no (tnot_ok (b := true) (t_ok (call1_ok (x := .ref h) rfl e)))) ⟨_, o2, rfl, hM2, hb2.mono (by omega), by omega⟩
    · rintro ρ' N' ⟨x3, o', rfl, _⟩
      exact ⟨_, _, _, rfl⟩
  · intro ρ' N _
    refine ret_sat (d := .bl true) rfl ?_
    show (y_gc [] (.ok (.bl true) N)).sat _ _
    by_cases q : D.bnd 0 (.bl true) = true ∧ Coll [] N
    · rw [show y_gc [] (.ok (.bl true) N) = .ok (.bl true) (N.take 0) from if_pos q]
      rfl
    · rw [show y_gc [] (.ok (.bl true) N) = .ok (.bl true) N from if_neg q]
      rfl
end
theorem law_true (K : PySem.W.Frag) (k : Kx K) (ns : List Int) (hl : ns.length ≤ 63) : ∃ M', y_law K [.fz (ns.map D.int)] [] = .ok (.bl true) M' := law_true0 k ns hl
section
variable {P : Program} {w : World} {K : PySem.W.Frag} {mg : Str → Option Value} {base : Heap}
theorem ok_lawF (T : Fx K mg) {fd : FuncData} (F : FnS K "law" "law" s_law (He.ga K "law") fd) : FnG P w K mg base (L2.CX P w) 9 (He.ga K "law") fd ["_law_script"] (spOf K SLaw) :=
  FnG.spmono (ok_law0 T F) fun ds M Φ Ξ ⟨ns, e1, hl, e2, q⟩ => by
    subst e1 e2
    obtain ⟨M', e⟩ := law_true K T.k ns hl
    show (y_law K _ _).sat Φ Ξ
    rw [e]
    exact q M'
end
theorem facts {P : Program} {w : World} {K : PySem.W.Frag} {h : Heap} {mg : Str → Option Value} {f : Addr} (X : K.In h) (G : h.Ns mainGlobals mg) (hfa : mg ("law" : Str) = some (.ref f)) (c : He5.SaysA fa fn K ∧ exB K = true) :
    ∃ fd : FuncData, (∀ (s : Shared) (v : Value), BindsTo s fd ⟨[v], []⟩ [("_law_script", v)]) ∧ ∀ base : Heap, K.In base → base.Ns mainGlobals mg → FnG P w K mg base (L2.CX P w) 9 f fd ["_law_script"] (spOf K SLaw) := by
  have T : Fx K mg := ⟨⟨h, X, G⟩, c.1, c.2⟩
  have e := hfa.symm.trans T.g_law
  cases e
  obtain ⟨fd, F⟩ := T.d_law
  have b := FunD.bindsA (ps := ["_law_script"]) F fun _ _ _ _ _ _ us hl => match us, hl with | [_], _ => rfl
  exact ⟨fd, fun s v => b s [v] rfl, fun base _ _ => ok_lawF T F⟩
end Lw
open PySem PySem.W PySem.Calls PyProof.Rows
theorem PySem.Challenge.cw_latertasks_k34_runs_made_holds : PySem.Challenge.rw_latertasks_k34_runs_made.Holds := by
  w_on; o_law
  refine HandSHeadRun.head_any (r := OpenLaw.row PySem.Challenge.rw_latertasks_k34_runs_made) (q := view (OpenLaw.row PySem.Challenge.rw_latertasks_k34_runs_made).prog [9]) (H := Lw.hkR) (ob := Lw.obR) (M := 6000) (loose := Lw.looseR) (d := HandSHeadRun.topDef (OpenLaw.row PySem.Challenge.rw_latertasks_k34_runs_made).prog 9) (kwd := []) Lw.obR_eq
    (by kernel_rfl) (fun s => by kernel_rfl) Lw.runR (by kernel_rfl) (by kernel_rfl) (by kernel_rfl) (by rfl) (by first | assumption | decide +kernel) (by decide +kernel) ⟨rfl, rfl, rfl, rfl, rfl, by decide +kernel⟩ ?hw ?hc
  case hw => w_witness2
  case hc =>
    refine Z.walk_ofG (lw := PySem.Challenge.rw_latertasks_k34_runs_made) (top := 63) (lev := 9) (arg := "_law_script") (CW := fun w => L2.CX (PySem.Challenge.rw_latertasks_k34_runs_made).prog w) rfl (by decide) (by kernel_rfl) ⟨rfl, by decide, by decide⟩ ?F ?G
    case G => exact fun w => Z.cx_none
    intro w mg fa h Y G hmg0
    obtain ⟨K, KX, c⟩ := Y
    have hmg : mg ("law" : PySem.Str) = some (.ref fa) := by
      have e : (HandSHeadRun.topDef (OpenLaw.row PySem.Challenge.rw_latertasks_k34_runs_made).prog 9).name = ("law" : PySem.Str) := by kernel_rfl
      rw [← e]
      exact hmg0
    obtain ⟨fd, hb, hF⟩ := Lw.facts (P := (PySem.Challenge.rw_latertasks_k34_runs_made).prog) (w := w) KX G hmg c
    exact ⟨K, fd, Z.spOf K Z.SLaw, KX, hb, fun H A ns hl _ hS => Z.law_start hl hS, hF⟩

