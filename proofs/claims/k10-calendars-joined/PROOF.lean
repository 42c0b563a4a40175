import PyProof.Rows.All
import Wide.All
import OpenK.AllK
import Wide.FinOn
import HandS.ForMost
import HandS.Exc
import HandS.ExcOwn
import HandS.CallSlots
import HandS.IsInst
import HandS.Walk
import HandS.Deep
import HandS.Defaults
import KE.SortData
import HandS.ListItems
import PyProof.InstNe
import HandS.SlotsOwn
import KE.GoesEnum
import HandS.HeadHook4
import HandS.HeadEnd
import HandS.WordsExc
import HandS.Words
import KE.KStateDown
import HandS.Ends
import HandS.More
import HandS.Head0
import HandS.Head1
import HandS.Head2
import PySem.Challenge.RW_letdays_k10_calendars_joined
set_option Elab.async false
set_option linter.all false
set_option maxRecDepth 100000
set_option maxHeartbeats 4000000
namespace Dl
open PySem L2

/-! ### data -/
inductive D where
  | non | bl (b : Bool) | int (i : Int) | str (x : Str)
  | lst (xs : List D) | tup (xs : List D)
  | dk (kvs : List (Key × D)) | dt (kvs : List (List Key × D))
  | ins (c : Str) (fs : List (Str × D))
  | ty (n : String) | gl (x : Str) | scr (ns : List Int)

/-- slots: frozen, owned by the def, borrowed -/
inductive Sl where
  | fz (d : D) | ow (d : D) | bo (d : D)
def Sl.d : Sl → D
  | .fz d => d
  | .ow d => d
  | .bo d => d
def Sl.mine : Sl → Bool
  | .fz _ => false
  | _ => true
abbrev En := List (Option Sl)
inductive Res (α : Type) where
  | ok (a : α) | er (c : Str) (fs : List (Str × D)) (r : En) | bad
def Res.bind {α β : Type} : Res α → (α → Res β) → Res β
  | .ok a, k => k a
  | .er c fs r, _ => .er c fs r
  | .bad, _ => .bad
theorem bind_ok {α β : Type} (a : α) (k : α → Res β) : (Res.ok a).bind k = k a := rfl
theorem bind_bad {α β : Type} (k : α → Res β) : (Res.bad : Res α).bind k = .bad := rfl
theorem bind_er {α β : Type} (c : Str) (fs : List (Str × D)) (r : En) (k : α → Res β) : (Res.er c fs r : Res α).bind k = .er c fs r := rfl

section
variable (K : PySem.W.Frag) (mg : Str → Option Value)
mutual
def rep (F : Hp) : D → V → Prop
  | .non, v => v = .non
  | .bl b, v => v = .bl b
  | .int i, v => v = .int i
  | .str x, v => v = .str x
  | .lst ds, v => ∃ a xs, v = .ref a ∧ F a = some (.lst xs) ∧ repL F ds xs
  | .tup ds, v => ∃ a xs, v = .ref a ∧ SqT K F a xs ∧ repL F ds xs
  | .dk kvs, v => ∃ a ws, v = .ref a ∧ Rd F a (.dK ws) ∧ repK F kvs ws
  | .dt kvs, v => ∃ a ws, v = .ref a ∧ Rd F a (.dT ws) ∧ repT F kvs ws
  | .ins c fs, v => ∃ a C dx ws, v = .ref a ∧ mg c = some (.ref C) ∧ F a = some (.ins C dx ws) ∧ repF F fs ws
  | .ty n, v => v = .ty n
  | .gl x, v => ∃ a, v = .ref a ∧ mg x = some (.ref a)
  | .scr ns, v => ∃ a, v = .ref a ∧ SqL K F a (ns.map V.int)
def repL (F : Hp) : List D → List V → Prop
  | [], vs => vs = []
  | d :: ds, vs => ∃ w ws, vs = w :: ws ∧ rep F d w ∧ repL F ds ws
def repK (F : Hp) : List (Key × D) → List (Key × V) → Prop
  | [], vs => vs = []
  | (k, d) :: ds, vs => ∃ w ws, vs = (k, w) :: ws ∧ rep F d w ∧ repK F ds ws
def repT (F : Hp) : List (List Key × D) → List (List Key × V) → Prop
  | [], vs => vs = []
  | (k, d) :: ds, vs => ∃ w ws, vs = (k, w) :: ws ∧ rep F d w ∧ repT F ds ws
def repF (F : Hp) : List (Str × D) → List (Str × V) → Prop
  | [], vs => vs = []
  | (k, d) :: ds, vs => ∃ w ws, vs = (k, w) :: ws ∧ rep F d w ∧ repF F ds ws
end
end

section
variable {K : PySem.W.Frag} {mg : Str → Option Value} {F F' H H' : Hp}
theorem Rd.mono {a : Addr} {u : HO} (e : Same F F') (h : Rd F a u) : Rd F' a u := by
  rcases h with h | ⟨o, h⟩
  · exact .inl (e _ _ h)
  · exact .inr ⟨o, e _ _ h⟩
theorem sqT_mono {a : Addr} {xs : List V} (e : Same F F') (h : SqT K F a xs) : SqT K F' a xs := by
  rcases h with h | h
  · exact .inl (Rd.mono e h)
  · exact .inr h
mutual
theorem rep_mono (e : Same F F') : ∀ (d : D) (v : V), rep K mg F d v → rep K mg F' d v
  | .non, _, h => h
  | .bl _, _, h => h
  | .int _, _, h => h
  | .str _, _, h => h
  | .lst ds, v, ⟨a, xs, e1, h, r⟩ => ⟨a, xs, e1, e _ _ h, repL_mono e ds xs r⟩
  | .tup ds, v, ⟨a, xs, e1, h, r⟩ => ⟨a, xs, e1, sqT_mono e h, repL_mono e ds xs r⟩
  | .dk ds, v, ⟨a, xs, e1, h, r⟩ => ⟨a, xs, e1, Rd.mono e h, repK_mono e ds xs r⟩
  | .dt ds, v, ⟨a, xs, e1, h, r⟩ => ⟨a, xs, e1, Rd.mono e h, repT_mono e ds xs r⟩
  | .ins c fs, v, ⟨a, C, dx, ws, e1, m, h, r⟩ => ⟨a, C, dx, ws, e1, m, e _ _ h, repF_mono e fs ws r⟩
  | .ty _, _, h => h
  | .gl _, _, h => h
  | .scr ns, _, ⟨a, e1, h⟩ => ⟨a, e1, Same.seq e h⟩
theorem repL_mono (e : Same F F') : ∀ (ds : List D) (vs : List V), repL K mg F ds vs → repL K mg F' ds vs
  | [], _, h => h
  | d :: ds, _, ⟨w, ws, e1, h, r⟩ => ⟨w, ws, e1, rep_mono e d w h, repL_mono e ds ws r⟩
theorem repK_mono (e : Same F F') : ∀ (ds : List (Key × D)) (vs : List (Key × V)), repK K mg F ds vs → repK K mg F' ds vs
  | [], _, h => h
  | (k, d) :: ds, _, ⟨w, ws, e1, h, r⟩ => ⟨w, ws, e1, rep_mono e d w h, repK_mono e ds ws r⟩
theorem repT_mono (e : Same F F') : ∀ (ds : List (List Key × D)) (vs : List (List Key × V)), repT K mg F ds vs → repT K mg F' ds vs
  | [], _, h => h
  | (k, d) :: ds, _, ⟨w, ws, e1, h, r⟩ => ⟨w, ws, e1, rep_mono e d w h, repT_mono e ds ws r⟩
theorem repF_mono (e : Same F F') : ∀ (ds : List (Str × D)) (vs : List (Str × V)), repF K mg F ds vs → repF K mg F' ds vs
  | [], _, h => h
  | (k, d) :: ds, _, ⟨w, ws, e1, h, r⟩ => ⟨w, ws, e1, rep_mono e d w h, repF_mono e ds ws r⟩
end
end

/-! ### owned things, what is looked at -/
section
variable (K : PySem.W.Frag) (mg : Str → Option Value)
/-- an owned object: its parts are frozen -/
def ownAt (F H : Hp) (p : Addr) : D → Prop
  | .lst ds => ∃ xs, H p = some (.lst xs) ∧ repL K mg F ds xs
  | .dk kvs => ∃ ws, H p = some (.dK ws) ∧ repK K mg F kvs ws
  | .dt kvs => ∃ ws, H p = some (.dT ws) ∧ repT K mg F kvs ws
  | .ins c fs => ∃ C dx ws, mg c = some (.ref C) ∧ H p = some (.ins C dx ws) ∧ repF K mg F fs ws
  | _ => False
/-- what a reading operation sees: the outermost object in H, its parts frozen -/
def vw (F H : Hp) : D → V → Prop
  | .lst ds, v => ∃ a xs, v = .ref a ∧ H a = some (.lst xs) ∧ repL K mg F ds xs
  | .tup ds, v => ∃ a xs, v = .ref a ∧ SqT K H a xs ∧ repL K mg F ds xs
  | .dk kvs, v => ∃ a ws, v = .ref a ∧ Rd H a (.dK ws) ∧ repK K mg F kvs ws
  | .dt kvs, v => ∃ a ws, v = .ref a ∧ Rd H a (.dT ws) ∧ repT K mg F kvs ws
  | .ins c fs, v => ∃ a C dx ws, v = .ref a ∧ mg c = some (.ref C) ∧ H a = some (.ins C dx ws) ∧ repF K mg F fs ws
  | .scr ns, v => ∃ a, v = .ref a ∧ SqL K H a (ns.map V.int)
  | d, v => rep K mg F d v
end
section
variable {K : PySem.W.Frag} {mg : Str → Option Value} {F F' H H' : Hp}
theorem vw_of (e : Same F H) : ∀ (d : D) (v : V), rep K mg F d v → vw K mg F H d v
  | .non, _, h => h
  | .bl _, _, h => h
  | .int _, _, h => h
  | .str _, _, h => h
  | .lst ds, v, ⟨a, xs, e1, h, r⟩ => ⟨a, xs, e1, e _ _ h, r⟩
  | .tup ds, v, ⟨a, xs, e1, h, r⟩ => ⟨a, xs, e1, sqT_mono e h, r⟩
  | .dk ds, v, ⟨a, xs, e1, h, r⟩ => ⟨a, xs, e1, Rd.mono e h, r⟩
  | .dt ds, v, ⟨a, xs, e1, h, r⟩ => ⟨a, xs, e1, Rd.mono e h, r⟩
  | .ins c fs, v, ⟨a, C, dx, ws, e1, m, h, r⟩ => ⟨a, C, dx, ws, e1, m, e _ _ h, r⟩
  | .ty _, _, h => h
  | .gl _, _, h => h
  | .scr ns, _, ⟨a, e1, h⟩ => ⟨a, e1, Same.seq e h⟩
theorem vw_own {p : Addr} : ∀ (d : D), ownAt K mg F H p d → vw K mg F H d (.ref p)
  | .lst ds, ⟨xs, h, r⟩ => ⟨p, xs, rfl, h, r⟩
  | .dk ds, ⟨xs, h, r⟩ => ⟨p, xs, rfl, .inl h, r⟩
  | .dt ds, ⟨xs, h, r⟩ => ⟨p, xs, rfl, .inl h, r⟩
  | .ins c fs, ⟨C, dx, ws, m, h, r⟩ => ⟨p, C, dx, ws, rfl, m, h, r⟩
/-- an owned object frozen -/
def frzAt (F H : Hp) (p : Addr) : Hp := fun a => if a = p then H p else F a
theorem frzAt_same {p : Addr} (hp : F p = none) : Same F (frzAt F H p) := fun a o e => by
  unfold frzAt
  rw [if_neg (ne_of_none e hp)]
  exact e
theorem frzAt_in {p : Addr} (e : Same F H) : Same (frzAt F H p) H := fun a o h => by
  unfold frzAt at h
  by_cases q : a = p
  · rw [if_pos q] at h
    rw [q]
    exact h
  · rw [if_neg q] at h
    exact e _ _ h
theorem frzAt_at {p : Addr} : frzAt F H p p = H p := by
  unfold frzAt
  exact if_pos rfl
theorem frzAt_ne {p a : Addr} (h : a ≠ p) : frzAt F H p a = F a := by
  unfold frzAt
  exact if_neg h
theorem rep_frz {p : Addr} (hp : F p = none) : ∀ (d : D), ownAt K mg F H p d → rep K mg (frzAt F H p) d (.ref p)
  | .lst ds, ⟨xs, h, r⟩ => ⟨p, xs, rfl, by rw [frzAt_at]; exact h, repL_mono (frzAt_same hp) _ _ r⟩
  | .dk ds, ⟨xs, h, r⟩ => ⟨p, xs, rfl, .inl (by rw [frzAt_at]; exact h), repK_mono (frzAt_same hp) _ _ r⟩
  | .dt ds, ⟨xs, h, r⟩ => ⟨p, xs, rfl, .inl (by rw [frzAt_at]; exact h), repT_mono (frzAt_same hp) _ _ r⟩
  | .ins c fs, ⟨C, dx, ws, m, h, r⟩ => ⟨p, C, dx, ws, rfl, m, by rw [frzAt_at]; exact h, repF_mono (frzAt_same hp) _ _ r⟩
theorem own_mono {p : Addr} (e : Same F F') (k : H' p = H p) : ∀ (d : D), ownAt K mg F H p d → ownAt K mg F' H' p d
  | .lst ds, ⟨xs, h, r⟩ => ⟨xs, k.trans h, repL_mono e _ _ r⟩
  | .dk ds, ⟨xs, h, r⟩ => ⟨xs, k.trans h, repK_mono e _ _ r⟩
  | .dt ds, ⟨xs, h, r⟩ => ⟨xs, k.trans h, repT_mono e _ _ r⟩
  | .ins c fs, ⟨C, dx, ws, m, h, r⟩ => ⟨C, dx, ws, m, k.trans h, repF_mono e _ _ r⟩
theorem own_there {p : Addr} : ∀ (d : D), ownAt K mg F H p d → ∃ o, H p = some o
  | .lst ds, ⟨xs, h, r⟩ => ⟨_, h⟩
  | .dk ds, ⟨xs, h, r⟩ => ⟨_, h⟩
  | .dt ds, ⟨xs, h, r⟩ => ⟨_, h⟩
  | .ins c fs, ⟨C, dx, ws, m, h, r⟩ => ⟨_, h⟩
end

/-! ### the state of a def: its slots, the frozen part F of the heap H, the entry -/
structure Bg where
  F : Hp
  H : Hp
  bs : List Addr
section
variable (K : PySem.W.Frag) (mg : Str → Option Value)
def slOk (B : Bg) (F H : Hp) (ov : Option (Option V)) : Sl → Prop
  | .fz d => ∃ v, ov = some (some v) ∧ rep K mg F d v
  | .ow d => ∃ p, ov = some (some (.ref p)) ∧ F p = none ∧ B.H p = none ∧ p ∉ B.bs ∧ ownAt K mg F H p d
  | .bo d => ∃ p, ov = some (some (.ref p)) ∧ F p = none ∧ p ∈ B.bs ∧ ownAt K mg F H p d
structure Rel (B : Bg) (F H : Hp) (r : En) (σ : St) : Prop where
  fh : Same F H
  f0 : Same B.F F
  keep : ∀ a o, a ∉ B.bs → B.H a = some o → H a = some o
  fresh : ∀ a, B.F a = none → B.H a ≠ none → F a = none
  live : ∀ a ∈ B.bs, H a ≠ none ∧ B.H a ≠ none
  len : r.length = σ.length
  slot : ∀ (i : Nat) (s : Sl), r[i]? = some (some s) → slOk K mg B F H σ[i]? s
  apart : ∀ (i j : Nat) (s t : Sl) (p : Addr), i ≠ j → r[i]? = some (some s) → r[j]? = some (some t) → s.mine = true → t.mine = true → σ[i]? = some (some (.ref p)) → σ[j]? ≠ some (some (.ref p))
end
section
variable {K : PySem.W.Frag} {mg : Str → Option Value} {B : Bg} {F F' H H' : Hp} {r : En} {σ : St}
theorem slOk.mono {ov : Option (Option V)} (eF : Same F F') (kH : ∀ a, F a = none → H a ≠ none → H' a = H a ∧ F' a = none) : ∀ {s : Sl}, slOk K mg B F H ov s → slOk K mg B F' H' ov s
  | .fz d, ⟨v, e, h⟩ => ⟨v, e, rep_mono eF _ _ h⟩
  | .ow d, ⟨p, e, hF, hB, hb, h⟩ => by
    obtain ⟨o, ho⟩ := own_there d h
    obtain ⟨k1, k2⟩ := kH p hF (by rw [ho]; exact fun z => nomatch z)
    exact ⟨p, e, k2, hB, hb, own_mono eF k1 d h⟩
  | .bo d, ⟨p, e, hF, hb, h⟩ => by
    obtain ⟨o, ho⟩ := own_there d h
    obtain ⟨k1, k2⟩ := kH p hF (by rw [ho]; exact fun z => nomatch z)
    exact ⟨p, e, k2, hb, own_mono eF k1 d h⟩
/-- the heap has grown -/
theorem Rel.grow (R : Rel K mg B F H r σ) (eH : Same H H') (eF : Same F F') (fh : Same F' H') (fr : ∀ a, F a = none → H a ≠ none → F' a = none) : Rel K mg B F' H' r σ where
  fh := fh
  f0 := R.f0.trans eF
  keep := fun a o hb h => eH _ _ (R.keep a o hb h)
  fresh := fun a h1 h2 => by
    have h3 := R.fresh a h1 h2
    by_cases hb : a ∈ B.bs
    · exact fr a h3 (R.live a hb).1
    · cases q : B.H a with
      | none => exact absurd q h2
      | some o => exact fr a h3 (by rw [R.keep a o hb q]; exact fun z => nomatch z)
  live := fun a hb => by
    obtain ⟨h1, h2⟩ := R.live a hb
    refine ⟨?_, h2⟩
    cases q : H a with
    | none => exact absurd q h1
    | some o => rw [eH _ _ q]; exact fun z => nomatch z
  len := R.len
  slot := fun i s h => (R.slot i s h).mono eF fun a h1 h2 => by
    refine ⟨?_, fr a h1 h2⟩
    cases q : H a with
    | none => exact absurd q h2
    | some o => exact eH _ _ q
  apart := R.apart
/-- a new object is laid, and is frozen at once -/
theorem same_new {p : Addr} {o : HO} (h : H p = none) : Same H (upd H p o) := fun a u e => by
  rw [upd_ne (ne_of_none e h)]
  exact e
theorem Rel.newF {p : Addr} {o : HO} (R : Rel K mg B F H r σ) (hp : H p = none) : Rel K mg B (upd F p o) (upd H p o) r σ := by
  have fp : F p = none := R.fh.free hp
  refine R.grow (same_new hp) (same_new fp) (fun a u e => ?_) (fun a h1 h2 => ?_)
  · by_cases q : a = p
    · subst q
      rw [upd_same] at e ⊢
      exact e
    · rw [upd_ne q] at e ⊢
      exact R.fh _ _ e
  · have q : a ≠ p := fun z => h2 (by rw [z]; exact hp)
    rw [upd_ne q]
    exact h1
/-- .. and is not frozen -/
theorem Rel.newO {p : Addr} {o : HO} (R : Rel K mg B F H r σ) (hp : H p = none) : Rel K mg B F (upd H p o) r σ :=
  R.grow (same_new hp) (Same.refl F) (R.fh.trans (same_new hp)) fun a h1 _ => h1
/-- a new address is not the entry's -/
theorem Rel.new_ne {p : Addr} (R : Rel K mg B F H r σ) (hp : H p = none) : B.H p = none ∧ p ∉ B.bs := by
  have nb : p ∉ B.bs := fun z => (R.live p z).1 hp
  refine ⟨?_, nb⟩
  cases q : B.H p with
  | none => rfl
  | some o =>
    rw [R.keep p o nb q] at hp
    cases hp
/-- an address that is no slot's own -/
def Loose (r : En) (σ : St) (p : Addr) : Prop := ∀ (i : Nat) (s : Sl), r[i]? = some (some s) → s.mine = true → σ[i]? ≠ some (some (.ref p))
theorem Rel.own_live (R : Rel K mg B F H r σ) {i : Nat} {s : Sl} {p : Addr} (h : r[i]? = some (some s)) (m : s.mine = true) (e : σ[i]? = some (some (.ref p))) : (∃ o, H p = some o) ∧ F p = none := by
  have q := R.slot i s h
  cases s with
  | fz d => cases m
  | ow d =>
    obtain ⟨p', e', hF, hB, hb, h'⟩ := q
    rw [e'] at e
    cases e
    exact ⟨own_there d h', hF⟩
  | bo d =>
    obtain ⟨p', e', hF, hb, h'⟩ := q
    rw [e'] at e
    cases e
    exact ⟨own_there d h', hF⟩
theorem Rel.loose_new {p : Addr} (R : Rel K mg B F H r σ) (hp : H p = none) : Loose r σ p := fun i s h m e => by
  obtain ⟨⟨o, ho⟩, _⟩ := R.own_live h m e
  rw [hp] at ho
  cases ho
/-- a loose owned object is frozen -/
theorem Rel.freeze {p : Addr} (R : Rel K mg B F H r σ) (hF : F p = none) (hB : B.H p = none) (hl : Loose r σ p) : Rel K mg B (frzAt F H p) H r σ where
  fh := frzAt_in R.fh
  f0 := R.f0.trans (frzAt_same hF)
  keep := R.keep
  fresh := fun a h1 h2 => by
    have q : a ≠ p := fun z => h2 (by rw [z]; exact hB)
    rw [frzAt_ne q]
    exact R.fresh a h1 h2
  live := R.live
  len := R.len
  slot := fun i s h => by
    have q := R.slot i s h
    cases s with
    | fz d =>
      obtain ⟨v, e, h'⟩ := q
      exact ⟨v, e, rep_mono (frzAt_same hF) _ _ h'⟩
    | ow d =>
      obtain ⟨p', e', hF', hB', hb', h'⟩ := q
      have ne : p' ≠ p := fun z => hl i _ h rfl (by rw [e', z])
      exact ⟨p', e', by rw [frzAt_ne ne]; exact hF', hB', hb', own_mono (frzAt_same hF) rfl d h'⟩
    | bo d =>
      obtain ⟨p', e', hF', hb', h'⟩ := q
      have ne : p' ≠ p := fun z => hl i _ h rfl (by rw [e', z])
      exact ⟨p', e', by rw [frzAt_ne ne]; exact hF', hb', own_mono (frzAt_same hF) rfl d h'⟩
  apart := R.apart
/-- a slot is given something frozen -/
theorem get_set {α : Type} {l : List α} {i j : Nat} {x : α} : (l.set i x)[j]? = if i = j then (if j < l.length then some x else none) else l[j]? := by
  by_cases h : i = j
  · subst h
    rw [if_pos rfl]
    by_cases q : i < l.length
    · rw [if_pos q, List.getElem?_set_self q]
    · rw [if_neg q, List.getElem?_eq_none_iff.mpr (by rw [List.length_set]; omega)]
  · rw [if_neg h, List.getElem?_set_ne h]
theorem Rel.setF {i : Nat} {v : V} {d : D} (R : Rel K mg B F H r σ) (h : rep K mg F d v) : Rel K mg B F H (r.set i (some (.fz d))) (σ.set i (some v)) where
  fh := R.fh
  f0 := R.f0
  keep := R.keep
  fresh := R.fresh
  live := R.live
  len := by rw [List.length_set, List.length_set]; exact R.len
  slot := fun j s hj => by
    rw [get_set] at hj
    rw [get_set, ← R.len]
    by_cases q : i = j
    · rw [if_pos q] at hj ⊢
      by_cases z : j < r.length
      · rw [if_pos z] at hj ⊢
        cases hj
        exact ⟨v, rfl, h⟩
      · rw [if_neg z] at hj
        cases hj
    · rw [if_neg q] at hj ⊢
      exact R.slot j s hj
  apart := fun a b s t p ne ha hb ms mt ea => by
    rw [get_set] at ha hb ea
    rw [get_set]
    by_cases qa : i = a
    · rw [if_pos qa] at ha
      by_cases z : a < r.length
      · rw [if_pos z] at ha
        cases ha
        cases ms
      · rw [if_neg z] at ha
        cases ha
    · rw [if_neg qa] at ha ea
      by_cases qb : i = b
      · rw [if_pos qb] at hb
        by_cases z : b < r.length
        · rw [if_pos z] at hb
          cases hb
          cases mt
        · rw [if_neg z] at hb
          cases hb
      · rw [if_neg qb] at hb ⊢
        exact R.apart a b s t p ne ha hb ms mt ea
/-- a slot is given a new owned object -/
theorem Rel.setO {i : Nat} {p : Addr} {d : D} (R : Rel K mg B F H r σ) (hF : F p = none) (hB : B.H p = none) (hb : p ∉ B.bs) (hl : Loose r σ p) (h : ownAt K mg F H p d) : Rel K mg B F H (r.set i (some (.ow d))) (σ.set i (some (.ref p))) where
  fh := R.fh
  f0 := R.f0
  keep := R.keep
  fresh := R.fresh
  live := R.live
  len := by rw [List.length_set, List.length_set]; exact R.len
  slot := fun j s hj => by
    rw [get_set] at hj
    rw [get_set, ← R.len]
    by_cases q : i = j
    · rw [if_pos q] at hj ⊢
      by_cases z : j < r.length
      · rw [if_pos z] at hj ⊢
        cases hj
        exact ⟨p, rfl, hF, hB, hb, h⟩
      · rw [if_neg z] at hj
        cases hj
    · rw [if_neg q] at hj ⊢
      exact R.slot j s hj
  apart := fun a b s t p' ne ha hb' ms mt ea eb => by
    rw [get_set] at ha hb' ea eb
    rw [← R.len] at ea eb
    by_cases qa : i = a
    · by_cases qb : i = b
      · exact ne (qa.symm.trans qb)
      · rw [if_neg qb] at hb' eb
        rw [if_pos qa] at ha ea
        by_cases z : a < r.length
        · rw [if_pos z] at ha ea
          cases ea
          exact hl b t hb' mt eb
        · rw [if_neg z] at ha
          cases ha
    · rw [if_neg qa] at ha ea
      by_cases qb : i = b
      · rw [if_pos qb] at hb' eb
        by_cases z : b < r.length
        · rw [if_pos z] at hb' eb
          cases eb
          exact hl a s ha ms ea
        · rw [if_neg z] at hb'
          cases hb'
      · rw [if_neg qb] at hb' eb
        exact R.apart a b s t p' ne ha hb' ms mt ea eb
/-- a slot is forgotten -/
theorem Rel.drop {i : Nat} {ov : Option V} (R : Rel K mg B F H r σ) : Rel K mg B F H (r.set i none) (σ.set i ov) where
  fh := R.fh
  f0 := R.f0
  keep := R.keep
  fresh := R.fresh
  live := R.live
  len := by rw [List.length_set, List.length_set]; exact R.len
  slot := fun j s hj => by
    rw [get_set] at hj
    rw [get_set]
    by_cases q : i = j
    · rw [if_pos q] at hj
      by_cases z : j < r.length
      · rw [if_pos z] at hj
        cases hj
      · rw [if_neg z] at hj
        cases hj
    · rw [if_neg q] at hj ⊢
      exact R.slot j s hj
  apart := fun a b s t p ne ha hb ms mt ea => by
    rw [get_set] at ha hb ea
    rw [get_set]
    by_cases qa : i = a
    · rw [if_pos qa] at ha
      by_cases z : a < r.length
      · rw [if_pos z] at ha
        cases ha
      · rw [if_neg z] at ha
        cases ha
    · rw [if_neg qa] at ha ea
      by_cases qb : i = b
      · rw [if_pos qb] at hb
        by_cases z : b < r.length
        · rw [if_pos z] at hb
          cases hb
        · rw [if_neg z] at hb
          cases hb
      · rw [if_neg qb] at hb ⊢
        exact R.apart a b s t p ne ha hb ms mt ea
/-- an owned or borrowed slot's object has changed -/
def Sl.put : Sl → D → Sl
  | .fz _, d => .fz d
  | .ow _, d => .ow d
  | .bo _, d => .bo d
theorem Sl.put_mine {s : Sl} {d : D} : (s.put d).mine = s.mine := by cases s <;> rfl
theorem Rel.mut {i : Nat} {s : Sl} {p : Addr} {d : D} (R : Rel K mg B F H r σ) (hs : r[i]? = some (some s)) (m : s.mine = true) (e : σ[i]? = some (some (.ref p))) (eF : Same F F') (fh : Same F' H')
    (kH : ∀ a o, a ≠ p → H a = some o → H' a = some o) (fr : ∀ a, F a = none → H a ≠ none → F' a = none) (h : ownAt K mg F' H' p d) : Rel K mg B F' H' (r.set i (some (s.put d))) σ := by
  obtain ⟨⟨op, hop⟩, hFp⟩ := R.own_live hs m e
  obtain ⟨op', hop'⟩ := own_there d h
  have pB : p ∈ B.bs ∨ B.H p = none := by
    have q := R.slot i s hs
    cases s with
    | fz d => cases m
    | ow d =>
      obtain ⟨p', e', _, hB, _, _⟩ := q
      rw [e'] at e
      cases e
      exact .inr hB
    | bo d =>
      obtain ⟨p', e', _, hb, _⟩ := q
      rw [e'] at e
      cases e
      exact .inl hb
  refine ⟨fh, R.f0.trans eF, fun a o hb ho => ?_, fun a h1 h2 => ?_, fun a hb => ?_, by rw [List.length_set]; exact R.len, fun j t hj => ?_, fun a b s1 t1 q ne ha hb ms mt ea eb => ?_⟩
  · have ne : a ≠ p := fun z => by
      rcases pB with z1 | z1
      · exact hb (by rw [z]; exact z1)
      · rw [z, z1] at ho
        cases ho
    exact kH a o ne (R.keep a o hb ho)
  · have h3 := R.fresh a h1 h2
    by_cases hb : a ∈ B.bs
    · exact fr a h3 (R.live a hb).1
    · cases q : B.H a with
      | none => exact absurd q h2
      | some o => exact fr a h3 (by rw [R.keep a o hb q]; exact fun z => nomatch z)
  · obtain ⟨h1, h2⟩ := R.live a hb
    refine ⟨?_, h2⟩
    by_cases ne : a = p
    · rw [ne, hop']
      exact fun z => nomatch z
    · cases q : H a with
      | none => exact absurd q h1
      | some o => rw [kH _ _ ne q]; exact fun z => nomatch z
  · rw [get_set] at hj
    by_cases q : i = j
    · subst q
      rw [if_pos rfl] at hj
      by_cases z : i < r.length
      · rw [if_pos z] at hj
        cases hj
        have q := R.slot i s hs
        cases s with
        | fz d => cases m
        | ow d0 =>
          obtain ⟨p', e', hF, hB, hb, _⟩ := q
          rw [e'] at e
          cases e
          exact ⟨p, e', fr p hFp (by rw [hop]; exact fun z => nomatch z), hB, hb, h⟩
        | bo d0 =>
          obtain ⟨p', e', hF, hb, _⟩ := q
          rw [e'] at e
          cases e
          exact ⟨p, e', fr p hFp (by rw [hop]; exact fun z => nomatch z), hb, h⟩
      · rw [if_neg z] at hj
        cases hj
    · rw [if_neg q] at hj
      have k := R.slot j t hj
      have nep : ∀ p', t.mine = true → σ[j]? = some (some (.ref p')) → p' ≠ p := fun p' mt ej z => R.apart i j s t p q hs hj m mt e (by rw [ej, z])
      cases t with
      | fz d1 =>
        obtain ⟨v, e1, h1⟩ := k
        exact ⟨v, e1, rep_mono eF _ _ h1⟩
      | ow d1 =>
        obtain ⟨p', e', hF', hB', hb', h'⟩ := k
        have ne := nep p' rfl e'
        obtain ⟨o', ho'⟩ := own_there d1 h'
        exact ⟨p', e', fr p' hF' (by rw [ho']; exact fun z => nomatch z), hB', hb', own_mono eF (by rw [ho']; exact kH _ _ ne ho') d1 h'⟩
      | bo d1 =>
        obtain ⟨p', e', hF', hb', h'⟩ := k
        have ne := nep p' rfl e'
        obtain ⟨o', ho'⟩ := own_there d1 h'
        exact ⟨p', e', fr p' hF' (by rw [ho']; exact fun z => nomatch z), hb', own_mono eF (by rw [ho']; exact kH _ _ ne ho') d1 h'⟩
  · rw [get_set] at ha hb
    have key : ∀ (c : Nat) (u : Sl), (if i = c then (if c < r.length then some (some (s.put d)) else none) else r[c]?) = some (some u) → u.mine = true → ∃ u', r[c]? = some (some u') ∧ u'.mine = true := fun c u hc mc => by
      by_cases q : i = c
      · rw [← q]
        exact ⟨s, hs, m⟩
      · rw [if_neg q] at hc
        exact ⟨u, hc, mc⟩
    obtain ⟨s', hs', ms'⟩ := key a s1 ha ms
    obtain ⟨t', ht', mt'⟩ := key b t1 hb mt
    exact R.apart a b s' t' q ne hs' ht' ms' mt' ea eb
/-- an owned slot frozen where it stands -/
theorem Rel.frz {i : Nat} {p : Addr} {d : D} (R : Rel K mg B F H r σ) (hs : r[i]? = some (some (.ow d))) (e : σ[i]? = some (some (.ref p))) : Rel K mg B (frzAt F H p) H (r.set i (some (.fz d))) σ ∧ rep K mg (frzAt F H p) d (.ref p) ∧ Same F (frzAt F H p) := by
  obtain ⟨p', e', hF, hB, hb, h⟩ := R.slot i _ hs
  rw [e] at e'
  cases e'
  have hi : i < r.length := (List.getElem?_eq_some_iff.mp hs).1
  have hi' : i < σ.length := by rw [← R.len]; exact hi
  have R1 : Rel K mg B F H (r.set i none) (σ.set i (some (.ref p))) := R.drop
  have es : σ.set i (some (.ref p)) = σ := by
    refine List.ext_getElem? fun j => ?_
    rw [get_set]
    by_cases q : i = j
    · subst q
      rw [if_pos rfl, if_pos hi', e]
    · rw [if_neg q]
  rw [es] at R1
  have hl : Loose (r.set i none) σ p := fun j t hj mt ej => by
    rw [get_set] at hj
    by_cases q : i = j
    · rw [if_pos q] at hj
      by_cases z : j < r.length
      · rw [if_pos z] at hj
        cases hj
      · rw [if_neg z] at hj
        cases hj
    · rw [if_neg q] at hj
      exact R.apart i j _ t p q hs hj rfl mt e ej
  have R2 := R1.freeze hF hB hl
  have h2 := rep_frz (K := K) (mg := mg) (H := H) hF d h
  have R3 := R2.setF (i := i) h2
  rw [es, List.set_set] at R3
  exact ⟨R3, h2, frzAt_same hF⟩
end
end Dl

set_option Elab.async false
set_option linter.all false
set_option maxRecDepth 100000
set_option maxHeartbeats 4000000
namespace Dl
open PySem L2

/-! ### what is wanted behind an evaluation -/
abbrev RR (α β : Type) := Bg → St → En → Hp → Hp → α → β → Prop
section
variable (K : PySem.W.Frag) (mg : Str → Option Value)
def xdOk (F H : Hp) (fs : List (Str × D)) : Option Addr → Prop
  | none => fs = []
  | some dd => ∃ ws, H dd = some (.xd ws) ∧ repF K mg F fs ws
def PoX (W : WX) (B : Bg) (F : Hp) (c : Str) (fs : List (Str × D)) (r' : En) : Prop :=
  ∀ C od σ' F' H', mg c = some (.ref C) → Rel K mg B F' H' r' σ' → Same F F' → xdOk K mg F' H' fs od → W (.ref C) od σ' H'
def Po {α β : Type} (W : WX) (B : Bg) (F : Hp) (σ : St) (R : RR α β) (Q : β → Hp → Prop) : Res (α × En) → Prop
  | .ok (a, r') => ∀ b F' H', Rel K mg B F' H' r' σ → Same F F' → R B σ r' F' H' a b → Q b H'
  | .er c fs r' => PoX K mg W B F c fs r'
  | .bad => False
def Ent {α β : Type} (W : WX) (R : RR α β) (t : St → Hp → (β → Hp → Prop) → Prop) (f : En → Res (α × En)) : Prop :=
  ∀ B F H r σ Q, Rel K mg B F H r σ → Po K mg W B F σ R Q (f r) → t σ H Q
/-- results: a frozen value, a truth, a list of frozen values, a new object -/
def rE : RR D V := fun _ _ _ F _ d v => rep K mg F d v
def rT : RR Bool Bool := fun _ _ _ _ _ a b => a = b
def rA : RR (List D) (List V) := fun _ _ _ F _ ds vs => repL K mg F ds vs
def rN : RR D V := fun B σ r F H d v => ∃ p, v = .ref p ∧ F p = none ∧ B.H p = none ∧ p ∉ B.bs ∧ Loose r σ p ∧ ownAt K mg F H p d
/-- what is looked at alone: a frozen value, or what stands in a slot -/
inductive BV where
  | fz (d : D) | sl (i : Nat)
def rB : RR BV V := fun _ σ _ F _ b v => match b with
  | .fz d => rep K mg F d v
  | .sl i => σ[i]? = some (some v)
end
def getB : BV → En → Res D
  | .fz d, _ => .ok d
  | .sl i, r => match r[i]? with
    | some (some s) => .ok s.d
    | _ => .bad
theorem getB_ner {b : BV} {r : En} {c : Str} {fs : List (Str × D)} {r' : En} (h : getB b r = .er c fs r') : False := by
  cases b with
  | fz d => cases h
  | sl i =>
    unfold getB at h
    cases e : r[i]? with
    | none =>
      simp only [e] at h
      cases h
    | some o =>
      cases o with
      | none =>
        simp only [e] at h
        cases h
      | some s =>
        simp only [e] at h
        cases h
section
variable {K : PySem.W.Frag} {mg : Str → Option Value} {W : WX} {B : Bg} {F F' H H' : Hp} {r : En} {σ : St}
theorem PoX.weak {c : Str} {fs : List (Str × D)} {r' : En} (h : PoX K mg W B F c fs r') (e : Same F F') : PoX K mg W B F' c fs r' :=
  fun C od σ' F1 H1 m R s x => h C od σ' F1 H1 m R (e.trans s) x
theorem Po.weak {α β : Type} {R : RR α β} {Q : β → Hp → Prop} {m : Res (α × En)} (h : Po K mg W B F σ R Q m) (e : Same F F') : Po K mg W B F' σ R Q m := by
  cases m with
  | ok p => exact fun b F1 H1 R1 s x => h b F1 H1 R1 (e.trans s) x
  | er c fs r' => exact PoX.weak h e
  | bad => exact h
theorem Po.bind {α β γ δ : Type} {R : RR α β} {R' : RR γ δ} {m : Res (α × En)} {k : α × En → Res (γ × En)} {Q : δ → Hp → Prop} {Q1 : β → Hp → Prop} (h : Po K mg W B F σ R' Q (m.bind k))
    (c : ∀ a r' b F' H', Rel K mg B F' H' r' σ → Same F F' → R B σ r' F' H' a b → Po K mg W B F' σ R' Q (k (a, r')) → Q1 b H') : Po K mg W B F σ R Q1 m := by
  cases m with
  | ok p =>
    obtain ⟨a, r'⟩ := p
    exact fun b F1 H1 R1 s x => c a r' b F1 H1 R1 s x (Po.weak (show Po K mg W B F σ R' Q (k (a, r')) from h) s)
  | er c fs r' => exact h
  | bad => exact h
theorem Po.fin {α β : Type} {R : RR α β} {Q : β → Hp → Prop} {a : α} {b : β} (h : Po K mg W B F σ R Q (.ok (a, r))) (R1 : Rel K mg B F H r σ) (x : R B σ r F H a b) : Q b H := h b F H R1 (Same.refl F) x
theorem Ent.to {α β γ δ : Type} {R : RR α β} {R' : RR γ δ} {t : St → Hp → (β → Hp → Prop) → Prop} {f : En → Res (α × En)} {k : α × En → Res (γ × En)} {Q : δ → Hp → Prop} {Q1 : β → Hp → Prop} (h : Ent K mg W R t f) (R1 : Rel K mg B F H r σ)
    (p : Po K mg W B F σ R' Q ((f r).bind k)) (c : ∀ a r' b F' H', Rel K mg B F' H' r' σ → Same F F' → R B σ r' F' H' a b → Po K mg W B F' σ R' Q (k (a, r')) → Q1 b H') : t σ H Q1 :=
  h B F H r σ Q1 R1 (Po.bind p c)
theorem rB_mono {b : BV} {v : V} {r' : En} (e : Same F F') (h : rB K mg B σ r F H b v) : rB K mg B σ r' F' H' b v := by
  cases b with
  | fz d => exact rep_mono e d v h
  | sl i => exact h
theorem getB_vw {b : BV} {v : V} {d : D} (R : Rel K mg B F H r σ) (h : rB K mg B σ r F H b v) (g : getB b r = .ok d) : vw K mg F H d v := by
  cases b with
  | fz d' =>
    cases g
    exact vw_of R.fh d v h
  | sl i =>
    have h' : σ[i]? = some (some v) := h
    unfold getB at g
    cases e : r[i]? with
    | none =>
      simp only [e] at g
      cases g
    | some o =>
      cases o with
      | none =>
        simp only [e] at g
        cases g
      | some s =>
        simp only [e] at g
        cases g
        have q := R.slot i s e
        cases s with
        | fz d =>
          obtain ⟨v', e', h1⟩ := q
          rw [h'] at e'
          cases e'
          exact vw_of R.fh _ _ h1
        | ow d =>
          obtain ⟨p, e', _, _, _, h1⟩ := q
          rw [h'] at e'
          cases e'
          exact vw_own _ h1
        | bo d =>
          obtain ⟨p, e', _, _, h1⟩ := q
          rw [h'] at e'
          cases e'
          exact vw_own _ h1
end

/-! ### the judgements -/
structure DE (X : Cx) (W : WX) (e : Expr) (f : En → Res (D × En)) : Prop where
  ex : ∃ t, PE X e t ∧ Ent X.K X.mg W (rE X.K X.mg) t f
structure DN (X : Cx) (W : WX) (e : Expr) (f : En → Res (D × En)) : Prop where
  ex : ∃ t, PE X e t ∧ Ent X.K X.mg W (rN X.K X.mg) t f
structure DB (X : Cx) (W : WX) (e : Expr) (f : En → Res (BV × En)) : Prop where
  ex : ∃ t, PE X e t ∧ Ent X.K X.mg W (rB X.K X.mg) t f
structure DT (X : Cx) (W : WX) (e : Expr) (f : En → Res (Bool × En)) : Prop where
  ex : ∃ t, PT X e t ∧ Ent X.K X.mg W rT t f
structure DW (X : Cx) (W : WX) (e : Expr) (f : En → Res (Bool × En)) : Prop where
  ex : ∃ t, PW X e t ∧ Ent X.K X.mg W rT t f
structure DA (X : Cx) (W : WX) (es : List Expr) (f : En → Res (List D × En)) : Prop where
  ex : ∃ t, PA X es t ∧ Ent X.K X.mg W (rA X.K X.mg) t f

/-! ### combinators -/
def eVar (i : Nat) : En → Res (D × En) := fun r => match r[i]? with
  | some (some (.fz d)) => .ok (d, r)
  | some (some (.ow d)) => .ok (d, r.set i (some (.fz d)))
  | _ => .bad
def eC (d : D) : En → Res (D × En) := fun r => .ok (d, r)
def bVar (i : Nat) : En → Res (BV × En) := fun r => match r[i]? with
  | some (some _) => .ok (.sl i, r)
  | _ => .bad
def bOf (f : En → Res (D × En)) : En → Res (BV × En) := fun r => (f r).bind fun p => .ok (.fz p.1, p.2)
def liftR {α : Type} (m : Option α) : Res α := match m with
  | some a => .ok a
  | none => .bad
/-- two operands, looked at when both are there -/
def eBin (g : D → D → Option D) (fa fb : En → Res (BV × En)) : En → Res (D × En) := fun r =>
  (fa r).bind fun p => (fb p.2).bind fun q => (getB p.1 q.2).bind fun x => (getB q.1 q.2).bind fun y => (liftR (g x y)).bind fun z => .ok (z, q.2)
def eUn (g : D → Option D) (fa : En → Res (BV × En)) : En → Res (D × En) := fun r =>
  (fa r).bind fun p => (getB p.1 p.2).bind fun x => (liftR (g x)).bind fun z => .ok (z, p.2)

section
variable {X : Cx} {W : WX}
theorem DE.db {e : Expr} {f : En → Res (D × En)} (h : DE X W e f) : DB X W e (bOf f) := by
  obtain ⟨t, hp, he⟩ := h.ex
  exact ⟨t, hp, fun B F H r σ Q R p => he.to R p fun a r' b F' H' R' s x q => q.fin R' x⟩
theorem DN.de {e : Expr} {f : En → Res (D × En)} (h : DN X W e f) : DE X W e f := by
  obtain ⟨t, hp, he⟩ := h.ex
  refine ⟨t, hp, fun B F H r σ Q R p => he B F H r σ Q R ?_⟩
  cases q : f r with
  | ok a =>
    obtain ⟨d, r'⟩ := a
    rw [q] at p
    rintro b F' H' R' s ⟨pa, rfl, h1, h2, h3, h4, h5⟩
    exact p _ _ H' (R'.freeze h1 h2 h4) (s.trans (frzAt_same h1)) (rep_frz h1 d h5)
  | er c fs r' =>
    rw [q] at p
    exact p
  | bad =>
    rw [q] at p
    exact p
theorem de_var {i : Nat} {x : Str} {pos : Pos} (hN : X.N[i]? = some x := by rfl) (hv : Vis X.env.scope x := by first | exact Or.inl rfl | exact Or.inr (Or.inl rfl) | exact Or.inr (Or.inr rfl)) (hd : (x == ("__debug__" : Str)) = false := by decide)
    (hcd : (x == ("__classdict__" : Str)) = false := by decide) : DE X W (.Name x pos) (eVar i) := by
  refine ⟨_, pe_var hN hv hd hcd, fun B F H r σ Q R p => ?_⟩
  unfold eVar at p
  cases e : r[i]? with
  | none =>
    rw [e] at p
    exact p.elim
  | some o =>
    cases o with
    | none =>
      rw [e] at p
      exact p.elim
    | some s =>
      rw [e] at p
      have q := R.slot i s e
      cases s with
      | fz d =>
        obtain ⟨v, e', h1⟩ := q
        exact ⟨v, e', p v F H R (Same.refl F) h1⟩
      | ow d =>
        obtain ⟨pa, e', h1⟩ := q
        obtain ⟨R1, r1, s1⟩ := R.frz e e'
        exact ⟨_, e', p _ _ H R1 s1 r1⟩
      | bo d => exact p.elim
theorem db_var {i : Nat} {x : Str} {pos : Pos} (hN : X.N[i]? = some x := by rfl) (hv : Vis X.env.scope x := by first | exact Or.inl rfl | exact Or.inr (Or.inl rfl) | exact Or.inr (Or.inr rfl)) (hd : (x == ("__debug__" : Str)) = false := by decide)
    (hcd : (x == ("__classdict__" : Str)) = false := by decide) : DB X W (.Name x pos) (bVar i) := by
  refine ⟨_, pe_var hN hv hd hcd, fun B F H r σ Q R p => ?_⟩
  unfold bVar at p
  cases e : r[i]? with
  | none =>
    rw [e] at p
    exact p.elim
  | some o =>
    cases o with
    | none =>
      rw [e] at p
      exact p.elim
    | some s =>
      rw [e] at p
      have q := R.slot i s e
      cases s with
      | fz d =>
        obtain ⟨v, e', h1⟩ := q
        exact ⟨v, e', p v F H R (Same.refl F) e'⟩
      | ow d =>
        obtain ⟨pa, e', h1⟩ := q
        exact ⟨_, e', p _ F H R (Same.refl F) e'⟩
      | bo d =>
        obtain ⟨pa, e', h1⟩ := q
        exact ⟨_, e', p _ F H R (Same.refl F) e'⟩
theorem de_c {e : Expr} {d : D} {v : V} (h : PE X e (tC v)) (hr : ∀ F, rep X.K X.mg F d v) : DE X W e (eC d) := ⟨_, h, fun B F H r σ Q R p => p v F H R (Same.refl F) (hr F)⟩
theorem de_int {i j pos} : DE X W (.Constant (.int i) j pos) (eC (.int i)) := de_c pe_int fun _ => rfl
theorem de_bl {i j pos} : DE X W (.Constant (.bool i) j pos) (eC (.bl i)) := de_c pe_bl fun _ => rfl
theorem de_non {j pos} : DE X W (.Constant .none j pos) (eC .non) := de_c pe_non fun _ => rfl
theorem de_str {x j pos} : DE X W (.Constant (.str x) j pos) (eC (.str x)) := de_c pe_str fun _ => rfl
/-- a module's name: a number, a text; a def or a class; a built-in class -/
theorem de_gint {x : Str} {i : Int} {pos : Pos} (hg : Gl X x) (hm : ∃ t, X.mg x = some (.int i t)) (hd : (x == ("__debug__" : Str)) = false := by decide) : DE X W (.Name x pos) (eC (.int i)) := by
  obtain ⟨t, e⟩ := hm
  exact de_c (pe_glob (v := .int i) hg e ⟨t, rfl⟩ hd) fun _ => rfl
theorem de_gstr {x z : Str} {pos : Pos} (hg : Gl X x) (hm : ∃ t, X.mg x = some (.str z t)) (hd : (x == ("__debug__" : Str)) = false := by decide) : DE X W (.Name x pos) (eC (.str z)) := by
  obtain ⟨t, e⟩ := hm
  exact de_c (pe_glob (v := .str z) hg e ⟨t, rfl⟩ hd) fun _ => rfl
theorem de_gl {x : Str} {a : Addr} {pos : Pos} (hg : Gl X x) (hm : X.mg x = some (.ref a)) (hd : (x == ("__debug__" : Str)) = false := by decide) : DE X W (.Name x pos) (eC (.gl x)) :=
  de_c (pe_glob (v := .ref a) hg hm rfl hd) fun _ => ⟨a, rfl, hm⟩
theorem de_ty {x : Str} {n : String} {pos : Pos} (hg : Gl X x) (hm : X.mg x = none) (hv : bootBuiltins x = some (.type n)) (hn : x ≠ "__name__" := by decide) (hd : (x == ("__debug__" : Str)) = false := by decide) : DE X W (.Name x pos) (eC (.ty n)) :=
  de_c (pe_bltn (v := .ty n) hg hm hv rfl hn hd) fun _ => rfl

/-! ### operators on values -/
/-- nothing changes: rr v u gives g x y -/
def OpV (X : Cx) (rr : R2) (g : D → D → Option D) : Prop := ∀ F H v u x y z Q, Same F H → vw X.K X.mg F H x v → vw X.K X.mg F H y u → g x y = some z → (∀ w, rep X.K X.mg F z w → Q w H) → rr v u H Q
/-- a new object comes -/
def OpN (X : Cx) (rr : R2) (g : D → D → Option D) : Prop := ∀ F H v u x y z Q, Same F H → vw X.K X.mg F H x v → vw X.K X.mg F H y u → g x y = some z → (∀ p o, H p = none → ownAt X.K X.mg F (upd H p o) p z → Q (.ref p) (upd H p o)) → rr v u H Q
def UnV (X : Cx) (rr : V → Hp → VK → Prop) (g : D → Option D) : Prop := ∀ F H v x z Q, Same F H → vw X.K X.mg F H x v → g x = some z → (∀ w, rep X.K X.mg F z w → Q w H) → rr v H Q
def UnN (X : Cx) (rr : V → Hp → VK → Prop) (g : D → Option D) : Prop := ∀ F H v x z Q, Same F H → vw X.K X.mg F H x v → g x = some z → (∀ p o, H p = none → ownAt X.K X.mg F (upd H p o) p z → Q (.ref p) (upd H p o)) → rr v H Q
theorem bin_ent {ta tb : TE} {fa fb : En → Res (BV × En)} {rr : R2} {g : D → D → Option D} {R : RR D V} (ha : Ent X.K X.mg W (rB X.K X.mg) ta fa) (hb : Ent X.K X.mg W (rB X.K X.mg) tb fb)
    (hr : ∀ B F H r σ v u x y z Q, Rel X.K X.mg B F H r σ → vw X.K X.mg F H x v → vw X.K X.mg F H y u → g x y = some z → Po X.K X.mg W B F σ R Q (.ok (z, r)) → rr v u H Q) : Ent X.K X.mg W R (tOp rr ta tb) (eBin g fa fb) := by
  intro B F H r σ Q R0 p
  unfold eBin at p
  refine ha.to R0 p fun a r1 v F1 H1 R1 s1 x1 p1 => ?_
  refine hb.to R1 p1 fun b r2 u F2 H2 R2 s2 x2 p2 => ?_
  have x1' := rB_mono (r' := r2) (H' := H2) s2 x1
  cases g1 : getB a r2 with
  | ok d1 =>
    cases g2 : getB b r2 with
    | ok d2 =>
      simp only [g1, g2, bind_ok] at p2
      cases g3 : g d1 d2 with
      | some z =>
        simp only [g3, liftR, bind_ok] at p2
        exact hr B F2 H2 r2 σ v u d1 d2 z Q R2 (getB_vw R2 x1' g1) (getB_vw R2 x2 g2) g3 p2
      | none =>
        simp only [g3, liftR, bind_bad] at p2
        exact p2.elim
    | er c fs r' =>
      exact (getB_ner g2).elim
    | bad =>
      simp only [g1, g2, bind_ok, bind_bad] at p2
      exact p2.elim
  | er c fs r' =>
    exact (getB_ner g1).elim
  | bad =>
    simp only [g1, bind_bad] at p2
    exact p2.elim
theorem un_ent {ta : TE} {fa : En → Res (BV × En)} {rr : V → Hp → VK → Prop} {g : D → Option D} {R : RR D V} (ha : Ent X.K X.mg W (rB X.K X.mg) ta fa)
    (hr : ∀ B F H r σ v x z Q, Rel X.K X.mg B F H r σ → vw X.K X.mg F H x v → g x = some z → Po X.K X.mg W B F σ R Q (.ok (z, r)) → rr v H Q) : Ent X.K X.mg W R (tUn rr ta) (eUn g fa) := by
  intro B F H r σ Q R0 p
  unfold eUn at p
  refine ha.to R0 p fun a r1 v F1 H1 R1 s1 x1 p1 => ?_
  cases g1 : getB a r1 with
  | ok d1 =>
    simp only [g1, bind_ok] at p1
    cases g3 : g d1 with
    | some z =>
      simp only [g3, liftR, bind_ok] at p1
      exact hr B F1 H1 r1 σ v d1 z Q R1 (getB_vw R1 x1 g1) g3 p1
    | none =>
      simp only [g3, liftR, bind_bad] at p1
      exact p1.elim
  | er c fs r' =>
    exact (getB_ner g1).elim
  | bad =>
    simp only [g1, bind_bad] at p1
    exact p1.elim
theorem opV_hr {rr : R2} {g : D → D → Option D} (h : OpV X rr g) (B F H r σ v u x y z Q) (R0 : Rel X.K X.mg B F H r σ) (h1 : vw X.K X.mg F H x v) (h2 : vw X.K X.mg F H y u) (h3 : g x y = some z) (p : Po X.K X.mg W B F σ (rE X.K X.mg) Q (.ok (z, r))) : rr v u H Q :=
  h F H v u x y z Q R0.fh h1 h2 h3 fun w hw => p w F H R0 (Same.refl F) hw
theorem opN_hr {rr : R2} {g : D → D → Option D} (h : OpN X rr g) (B F H r σ v u x y z Q) (R0 : Rel X.K X.mg B F H r σ) (h1 : vw X.K X.mg F H x v) (h2 : vw X.K X.mg F H y u) (h3 : g x y = some z) (p : Po X.K X.mg W B F σ (rN X.K X.mg) Q (.ok (z, r))) : rr v u H Q :=
  h F H v u x y z Q R0.fh h1 h2 h3 fun pa o hp ho => p _ F _ (R0.newO hp) (Same.refl F) ⟨pa, rfl, R0.fh.free hp, (R0.new_ne hp).1, (R0.new_ne hp).2, R0.loose_new hp, ho⟩
theorem unV_hr {rr : V → Hp → VK → Prop} {g : D → Option D} (h : UnV X rr g) (B F H r σ v x z Q) (R0 : Rel X.K X.mg B F H r σ) (h1 : vw X.K X.mg F H x v) (h3 : g x = some z) (p : Po X.K X.mg W B F σ (rE X.K X.mg) Q (.ok (z, r))) : rr v H Q :=
  h F H v x z Q R0.fh h1 h3 fun w hw => p w F H R0 (Same.refl F) hw
theorem unN_hr {rr : V → Hp → VK → Prop} {g : D → Option D} (h : UnN X rr g) (B F H r σ v x z Q) (R0 : Rel X.K X.mg B F H r σ) (h1 : vw X.K X.mg F H x v) (h3 : g x = some z) (p : Po X.K X.mg W B F σ (rN X.K X.mg) Q (.ok (z, r))) : rr v H Q :=
  h F H v x z Q R0.fh h1 h3 fun pa o hp ho => p _ F _ (R0.newO hp) (Same.refl F) ⟨pa, rfl, R0.fh.free hp, (R0.new_ne hp).1, (R0.new_ne hp).2, R0.loose_new hp, ho⟩
variable {a b e : Expr} {pos : Pos} {fa fb : En → Res (BV × En)}
theorem de_op {op : Operator} {rr : R2} {g : D → D → Option D} (ho : OpR X (binaryOp op) rr) (hv : OpV X rr g) (ha : DB X W a fa) (hb : DB X W b fb) : DE X W (.BinOp a op b pos) (eBin g fa fb) := by
  obtain ⟨ta, pa, ea⟩ := ha.ex
  obtain ⟨tb, pb, eb⟩ := hb.ex
  exact ⟨_, pe_op ho pa pb, bin_ent ea eb (opV_hr hv)⟩
theorem dn_op {op : Operator} {rr : R2} {g : D → D → Option D} (ho : OpR X (binaryOp op) rr) (hv : OpN X rr g) (ha : DB X W a fa) (hb : DB X W b fb) : DN X W (.BinOp a op b pos) (eBin g fa fb) := by
  obtain ⟨ta, pa, ea⟩ := ha.ex
  obtain ⟨tb, pb, eb⟩ := hb.ex
  exact ⟨_, pe_op ho pa pb, bin_ent ea eb (opN_hr hv)⟩
theorem de_un {op : UnaryOp} {rr : V → Hp → VK → Prop} {g : D → Option D} (ho : UnR X (unaryOp op) rr) (hv : UnV X rr g) (ha : DB X W a fa) : DE X W (.UnaryOp op a pos) (eUn g fa) := by
  obtain ⟨ta, pa, ea⟩ := ha.ex
  exact ⟨_, pe_un ho pa, un_ent ea (unV_hr hv)⟩
theorem de_cmp {op : CmpOp} {rr : R2} {g : D → D → Option D} (ho : OpR X (compareOp op) rr) (hv : OpV X rr g) (ha : DB X W a fa) (hb : DB X W b fb) (hm : behindInMarks op b = false := by first | exact nomark _ | rfl) : DE X W (.Compare a [op] [b] pos) (eBin g fa fb) := by
  obtain ⟨ta, pa, ea⟩ := ha.ex
  obtain ⟨tb, pb, eb⟩ := hb.ex
  exact ⟨_, pe_cmpR ho pa pb hm, bin_ent ea eb (opV_hr hv)⟩
/-- a[i], a a thing that is looked at -/
theorem de_ix {rr : R2} {g : D → D → Option D} (ho : IxR X rr) (hv : OpV X rr g) (ha : DB X W a fa) (hb : DB X W b fb) (hs : PlainIx b := by exact fun _ _ => rfl) : DE X W (.Subscript a b pos) (eBin g fa fb) := by
  obtain ⟨ta, pa, ea⟩ := ha.ex
  obtain ⟨tb, pb, eb⟩ := hb.ex
  exact ⟨_, pe_ix ho pa pb hs, bin_ent ea eb (opV_hr hv)⟩

/-! ### tests -/
def tOfE (f : En → Res (D × En)) : En → Res (Bool × En) := fun r => (f r).bind fun p => match p.1 with
  | .bl c => .ok (c, p.2)
  | _ => .bad
theorem tB_ent {t : TE} {f : En → Res (D × En)} (h : Ent X.K X.mg W (rE X.K X.mg) t f) : Ent X.K X.mg W rT (tB t) (tOfE f) := by
  intro B F H r σ Q R p
  refine h.to R p fun d r' v F' H' R' s x q => ?_
  cases d with
  | bl c => exact ⟨c, x, q c F' H' R' (Same.refl F') rfl⟩
  | _ => exact q.elim
theorem dt_val {f : En → Res (D × En)} (h : DE X W e f) (he : ∀ whole, isTrue e X.env whole = (do let v ← whole; standAt e.pos; holding [v] (truthy v)) := by intro _; rfl) : DT X W e (tOfE f) := by
  obtain ⟨t, hp, hh⟩ := h.ex
  exact ⟨_, pt_val hp he, tB_ent hh⟩
theorem dt_cmp {op : CmpOp} {rr : R2} {g : D → D → Option D} (ho : OpR X (compareOp op) rr) (hv : OpV X rr g) (ha : DB X W a fa) (hb : DB X W b fb) (hm : behindInMarks op b = false := by first | exact nomark _ | rfl) : DT X W (.Compare a [op] [b] pos) (tOfE (eBin g fa fb)) := by
  obtain ⟨ta, pa, ea⟩ := ha.ex
  obtain ⟨tb, pb, eb⟩ := hb.ex
  exact ⟨_, pt_cmpR ho pa pb hm, tB_ent (bin_ent ea eb (opV_hr hv))⟩
def tAndD (f g : En → Res (Bool × En)) : En → Res (Bool × En) := fun r => (f r).bind fun p => match p.1 with
  | true => g p.2
  | false => .ok (false, p.2)
def tOrD (f g : En → Res (Bool × En)) : En → Res (Bool × En) := fun r => (f r).bind fun p => match p.1 with
  | true => .ok (true, p.2)
  | false => g p.2
def tNotD (f : En → Res (Bool × En)) : En → Res (Bool × En) := fun r => (f r).bind fun p => .ok (!p.1, p.2)
variable {f g : En → Res (Bool × En)} {rest : List Expr}
theorem DW.dt (h : DW X W e f) : DT X W e f := by
  obtain ⟨t, hp, hh⟩ := h.ex
  exact ⟨t, hp.pt, hh⟩
theorem dw_and1 (h : DT X W a f) : DW X W (.BoolOp .And [a] pos) f := by
  obtain ⟨t, hp, hh⟩ := h.ex
  exact ⟨t, pw_and1 hp, hh⟩
theorem dw_or1 (h : DT X W a f) : DW X W (.BoolOp .Or [a] pos) f := by
  obtain ⟨t, hp, hh⟩ := h.ex
  exact ⟨t, pw_or1 hp, hh⟩
theorem dw_and (h : DT X W a f) (k : DW X W (.BoolOp .And (b :: rest) pos) g) : DW X W (.BoolOp .And (a :: b :: rest) pos) (tAndD f g) := by
  obtain ⟨t, hp, hh⟩ := h.ex
  obtain ⟨u, kp, kh⟩ := k.ex
  refine ⟨_, pw_and hp kp, fun B F H r σ Q R p => hh.to R p fun c r' c' F' H' R' s x q => ?_⟩
  cases (show c = c' from x)
  cases c with
  | true => exact kh B F' H' r' σ Q R' q
  | false => exact q false F' H' R' (Same.refl F') rfl
theorem dw_or (h : DT X W a f) (k : DW X W (.BoolOp .Or (b :: rest) pos) g) : DW X W (.BoolOp .Or (a :: b :: rest) pos) (tOrD f g) := by
  obtain ⟨t, hp, hh⟩ := h.ex
  obtain ⟨u, kp, kh⟩ := k.ex
  refine ⟨_, pw_or hp kp, fun B F H r σ Q R p => hh.to R p fun c r' c' F' H' R' s x q => ?_⟩
  cases (show c = c' from x)
  cases c with
  | true => exact q true F' H' R' (Same.refl F') rfl
  | false => exact kh B F' H' r' σ Q R' q
theorem dt_not (h : DT X W a f) : DT X W (.UnaryOp .Not a pos) (tNotD f) := by
  obtain ⟨t, hp, hh⟩ := h.ex
  refine ⟨_, pt_not hp, fun B F H r σ Q R p => hh.to R p fun c r' c' F' H' R' s x q => ?_⟩
  cases (show c = c' from x)
  exact q (!c) F' H' R' (Same.refl F') rfl
/-- and, or, not as values (bools) -/
def eAnd (f g : En → Res (D × En)) : En → Res (D × En) := fun r => (f r).bind fun p => match p.1 with
  | .bl true => g p.2
  | .bl false => .ok (.bl false, p.2)
  | _ => .bad
def eOr (f g : En → Res (D × En)) : En → Res (D × En) := fun r => (f r).bind fun p => match p.1 with
  | .bl true => .ok (.bl true, p.2)
  | .bl false => g p.2
  | _ => .bad
def eNot (f : En → Res (D × En)) : En → Res (D × En) := fun r => (f r).bind fun p => match p.1 with
  | .bl c => .ok (.bl (!c), p.2)
  | _ => .bad
variable {h k : En → Res (D × En)}
theorem de_one {op} (hh : DE X W a h) : DE X W (.BoolOp op [a] pos) h := by
  obtain ⟨t, hp, he⟩ := hh.ex
  exact ⟨t, pe_one hp, he⟩
theorem de_and (hh : DE X W a h) (kk : DE X W (.BoolOp .And (b :: rest) pos) k) : DE X W (.BoolOp .And (a :: b :: rest) pos) (eAnd h k) := by
  obtain ⟨t, hp, he⟩ := hh.ex
  obtain ⟨u, kp, ke⟩ := kk.ex
  refine ⟨_, pe_and hp kp, fun B F H r σ Q R p => he.to R p fun d r' v F' H' R' s x q => ?_⟩
  cases d with
  | bl c =>
    refine ⟨c, x, ?_⟩
    cases c with
    | true => exact ke B F' H' r' σ Q R' q
    | false => exact q (.bl false) F' H' R' (Same.refl F') rfl
  | _ => exact q.elim
theorem de_or (hh : DE X W a h) (kk : DE X W (.BoolOp .Or (b :: rest) pos) k) : DE X W (.BoolOp .Or (a :: b :: rest) pos) (eOr h k) := by
  obtain ⟨t, hp, he⟩ := hh.ex
  obtain ⟨u, kp, ke⟩ := kk.ex
  refine ⟨_, pe_or hp kp, fun B F H r σ Q R p => he.to R p fun d r' v F' H' R' s x q => ?_⟩
  cases d with
  | bl c =>
    refine ⟨c, x, ?_⟩
    cases c with
    | true => exact q (.bl true) F' H' R' (Same.refl F') rfl
    | false => exact ke B F' H' r' σ Q R' q
  | _ => exact q.elim
theorem de_not (hh : DE X W a h) : DE X W (.UnaryOp .Not a pos) (eNot h) := by
  obtain ⟨t, hp, he⟩ := hh.ex
  refine ⟨_, pe_not hp, fun B F H r σ Q R p => he.to R p fun d r' v F' H' R' s x q => ?_⟩
  cases d with
  | bl c => exact ⟨c, x, q (.bl (!c)) F' H' R' (Same.refl F') rfl⟩
  | _ => exact q.elim
/-- a if t else b -/
def eIf (t : En → Res (Bool × En)) (f g : En → Res (D × En)) : En → Res (D × En) := fun r => (t r).bind fun p => match p.1 with
  | true => f p.2
  | false => g p.2
theorem de_if {c : Expr} (hc : DT X W c f) (hh : DE X W a h) (kk : DE X W b k) : DE X W (.IfExp c a b pos) (eIf f h k) := by
  obtain ⟨tc, pc, ec⟩ := hc.ex
  obtain ⟨t, hp, he⟩ := hh.ex
  obtain ⟨u, kp, ke⟩ := kk.ex
  refine ⟨_, pe_ifExp pc hp kp, fun B F H r σ Q R p => ec.to R p fun c r' c' F' H' R' s x q => ?_⟩
  cases (show c = c' from x)
  cases c with
  | true => exact he B F' H' r' σ Q R' q
  | false => exact ke B F' H' r' σ Q R' q
/-! ### arguments -/
def aNil : En → Res (List D × En) := fun r => .ok ([], r)
def aCons (f : En → Res (D × En)) (g : En → Res (List D × En)) : En → Res (List D × En) := fun r => (f r).bind fun p => (g p.2).bind fun q => .ok (p.1 :: q.1, q.2)
theorem da_nil : DA X W [] aNil := ⟨_, pa_nil, fun B F H r σ Q R p => p [] F H R (Same.refl F) rfl⟩
theorem da_cons {es : List Expr} {gs : En → Res (List D × En)} (hh : DE X W e h) (hr : DA X W es gs) (hs : starEach (e :: es) X.env = (false, eval e X.env) :: starEach es X.env := by rfl) : DA X W (e :: es) (aCons h gs) := by
  obtain ⟨t, hp, he⟩ := hh.ex
  obtain ⟨u, kp, ke⟩ := hr.ex
  refine ⟨_, pa_cons hp kp hs, fun B F H r σ Q R p => he.to R p fun d r1 v F1 H1 R1 s1 x1 p1 => ?_⟩
  refine ke.to R1 p1 fun ds r2 vs F2 H2 R2 s2 x2 p2 => ?_
  exact p2 (v :: vs) F2 H2 R2 (Same.refl F2) ⟨v, vs, rfl, rep_mono s2 d v x1, x2⟩
/-! ### displays -/
def eLst (f : En → Res (List D × En)) : En → Res (D × En) := fun r => (f r).bind fun p => if p.1.length ≤ 1000 then .ok (.lst p.1, p.2) else .bad
def eTup (f : En → Res (List D × En)) : En → Res (D × En) := fun r => (f r).bind fun p => if p.1.length ≤ 1000 then .ok (.tup p.1, p.2) else .bad
theorem repL_len {K : PySem.W.Frag} {mg : Str → Option Value} {F : Hp} : ∀ {ds : List D} {vs : List V}, repL K mg F ds vs → vs.length = ds.length
  | [], _, h => by
    cases h
    rfl
  | d :: ds, _, h => by
    obtain ⟨w, ws, rfl, _, h⟩ := h
    simp [repL_len h]
theorem dn_lst {es : List Expr} {gs : En → Res (List D × En)} (hr : DA X W es gs) : DN X W (.List es pos) (eLst gs) := by
  obtain ⟨u, kp, ke⟩ := hr.ex
  refine ⟨_, pe_lst kp, fun B F H r σ Q R p => ke.to R p fun ds r2 vs F2 H2 R2 s2 x2 p2 => ?_⟩
  by_cases hz : ds.length ≤ 1000
  · simp only [if_pos hz] at p2
    refine ⟨Nat.le_of_lt (small1000 (by rw [repL_len x2]; exact hz)), fun pa hp => ?_⟩
    exact p2 _ F2 _ (R2.newO hp) (Same.refl F2) ⟨pa, rfl, R2.fh.free hp, (R2.new_ne hp).1, (R2.new_ne hp).2, R2.loose_new hp, vs, upd_same, x2⟩
  · simp only [if_neg hz] at p2
    exact p2.elim
theorem de_tup {es : List Expr} {x1} {gs : En → Res (List D × En)} (hr : DA X W es gs) : DE X W (.Tuple es x1 pos) (eTup gs) := by
  obtain ⟨u, kp, ke⟩ := hr.ex
  refine ⟨_, pe_tup kp, fun B F H r σ Q R p => ke.to R p fun ds r2 vs F2 H2 R2 s2 x2 p2 => ?_⟩
  by_cases hz : ds.length ≤ 1000
  · simp only [if_pos hz] at p2
    refine ⟨Nat.le_of_lt (small1000 (by rw [repL_len x2]; exact hz)), fun pa hp => ?_⟩
    have fp := R2.fh.free hp
    exact p2 _ _ _ (R2.newF hp) (same_new fp) ⟨pa, vs, rfl, SqT.of upd_same, repL_mono (same_new fp) _ _ x2⟩
  · simp only [if_neg hz] at p2
    exact p2.elim
end
end Dl

set_option Elab.async false
set_option linter.all false
set_option maxRecDepth 100000
set_option maxHeartbeats 4000000
namespace Dl
open PySem L2

/-! ### the reading that a denotation asks for -/
def tOf {α β : Type} (K : PySem.W.Frag) (mg : Str → Option Value) (W : WX) (R : RR α β) (f : En → Res (α × En)) : St → Hp → (β → Hp → Prop) → Prop := fun σ H Q => ∃ B F r, Rel K mg B F H r σ ∧ Po K mg W B F σ R Q (f r)
theorem ent_tOf {α β : Type} {K : PySem.W.Frag} {mg : Str → Option Value} {W : WX} {R : RR α β} {f : En → Res (α × En)} : Ent K mg W R (tOf K mg W R f) f := fun B F H r σ Q R1 p => ⟨B, F, r, R1, p⟩
section
variable {X : Cx} {W : WX} {e : Expr}
theorem DE.can {f : En → Res (D × En)} (h : DE X W e f) : PE X e (tOf X.K X.mg W (rE X.K X.mg) f) := by
  obtain ⟨t, hp, he⟩ := h.ex
  exact ⟨fun pins s σ H Q I ⟨B, F, r, R, p⟩ => hp.run pins s σ H Q I (he B F H r σ Q R p)⟩
theorem DT.can {f : En → Res (Bool × En)} (h : DT X W e f) : PT X e (tOf X.K X.mg W rT f) := by
  obtain ⟨t, hp, he⟩ := h.ex
  exact ⟨fun pins s σ H Q I ⟨B, F, r, R, p⟩ => hp.run pins s σ H Q I (he B F H r σ Q R p)⟩
end

/-! ### targets -/
def Off (vs : List Nat) (σ σ' : St) : Prop := σ'.length = σ.length ∧ ∀ i, i ∉ vs → σ'[i]? = σ[i]?
theorem Off.refl {vs : List Nat} {σ : St} : Off vs σ σ := ⟨rfl, fun _ _ => rfl⟩
theorem Off.trans {vs : List Nat} {σ σ1 σ2 : St} (a : Off vs σ σ1) (b : Off vs σ1 σ2) : Off vs σ σ2 := ⟨b.1.trans a.1, fun i h => (b.2 i h).trans (a.2 i h)⟩
theorem Off.set {vs : List Nat} {σ : St} {i : Nat} {ov : Option V} (h : i ∈ vs) : Off vs σ (σ.set i ov) := ⟨List.length_set .., fun j hj => List.getElem?_set_ne (show i ≠ j from fun z => hj (by rw [← z]; exact h))⟩
theorem wipe_get {σ : St} {i : Nat} : ∀ (vs : List Nat), (wipe σ vs)[i]? = if i ∈ vs then (if i < σ.length then some none else none) else σ[i]?
  | [] => by simp [wipe]
  | v :: vs => by
    show ((wipe σ vs).set v none)[i]? = _
    rw [get_set, wipe_length, wipe_get vs]
    by_cases h : v = i
    · subst h
      simp
    · rw [if_neg h]
      have q : (i ∈ v :: vs) ↔ i ∈ vs := by
        simp only [List.mem_cons]
        exact ⟨fun z => z.elim (fun z => absurd z.symm h) id, .inr⟩
      simp only [q]
theorem Off.wipe {vs : List Nat} {σ σ' : St} (h : Off vs σ σ') : L2.wipe σ' vs = L2.wipe σ vs := by
  refine List.ext_getElem? fun i => ?_
  rw [wipe_get, wipe_get, h.1]
  by_cases q : i ∈ vs
  · rw [if_pos q, if_pos q]
  · rw [if_neg q, if_neg q, h.2 i q]
theorem off_wipe {vs : List Nat} {σ : St} : Off vs σ (L2.wipe σ vs) := ⟨wipe_length _ _, fun i h => by rw [wipe_get, if_neg h]⟩
section
variable (K : PySem.W.Frag) (mg : Str → Option Value)
def PoG (W : WX) (B : Bg) (F : Hp) (σ : St) (vs : List Nat) (Q : St → Hp → Prop) : Res En → Prop
  | .ok r' => ∀ σ' F' H', Rel K mg B F' H' r' σ' → Same F F' → Off vs σ σ' → Q σ' H'
  | .er c fs r' => PoX K mg W B F c fs r'
  | .bad => False
def EntG (W : WX) (vs : List Nat) (t : TG) (g : D → En → Res En) : Prop := ∀ B F H r σ d v Q, Rel K mg B F H r σ → rep K mg F d v → PoG K mg W B F σ vs Q (g d r) → t v σ H Q
def EntGs (W : WX) (vs : List Nat) (t : TGs) (g : List D → En → Res En) : Prop := ∀ B F H r σ d v Q, Rel K mg B F H r σ → repL K mg F d v → PoG K mg W B F σ vs Q (g d r) → t v σ H Q
def tOfG (W : WX) (vs : List Nat) (g : D → En → Res En) : TG := fun v σ H Q => ∃ B F r d, Rel K mg B F H r σ ∧ rep K mg F d v ∧ PoG K mg W B F σ vs Q (g d r)
end
structure DG (X : Cx) (W : WX) (tg : Expr) (vs : List Nat) (g : D → En → Res En) : Prop where
  ex : ∃ t, PG X tg t ∧ EntG X.K X.mg W vs t g
structure DGs (X : Cx) (W : WX) (tgs : List Expr) (vs : List Nat) (g : List D → En → Res En) : Prop where
  ex : ∃ t, PGs X tgs t ∧ EntGs X.K X.mg W vs t g
section
variable {K : PySem.W.Frag} {mg : Str → Option Value} {W : WX} {B : Bg} {F F' H H' : Hp} {r : En} {σ : St} {vs : List Nat}
theorem PoG.weak {Q : St → Hp → Prop} {m : Res En} (h : PoG K mg W B F σ vs Q m) (e : Same F F') : PoG K mg W B F' σ vs Q m := by
  cases m with
  | ok p => exact fun b F1 H1 R1 s x => h b F1 H1 R1 (e.trans s) x
  | er c fs r' => exact PoX.weak h e
  | bad => exact h
theorem PoG.off {Q : St → Hp → Prop} {m : Res En} {σ' : St} (h : PoG K mg W B F σ vs Q m) (e : Off vs σ σ') : PoG K mg W B F σ' vs Q m := by
  cases m with
  | ok p => exact fun b F1 H1 R1 s x => h b F1 H1 R1 s (e.trans x)
  | er c fs r' => exact h
  | bad => exact h
end
/-! targets' combinators -/
def gNm (i : Nat) : D → En → Res En := fun d r => .ok (r.set i (some (.fz d)))
def gsNil : List D → En → Res En := fun ds r => match ds with
  | [] => .ok r
  | _ => .bad
def gsCons (g : D → En → Res En) (h : List D → En → Res En) : List D → En → Res En := fun ds r => match ds with
  | d :: ds => (g d r).bind fun r1 => h ds r1
  | [] => .bad
def gTp (n : Nat) (h : List D → En → Res En) : D → En → Res En := fun d r => match d with
  | .tup ds => if ds.length = n then h ds r else .bad
  | _ => .bad
section
variable {X : Cx} {W : WX} {vs : List Nat} {pos : Pos}
theorem DG.can {tg : Expr} {g : D → En → Res En} (h : DG X W tg vs g) : PG X tg (tOfG X.K X.mg W vs g) := by
  obtain ⟨t, hp, he⟩ := h.ex
  exact ⟨fun pins s σ H v u Q I rv ⟨B, F, r, d, R, rp, p⟩ => hp.run pins s σ H v u Q I rv (he B F H r σ d v Q R rp p)⟩
theorem dg_name {i : Nat} {x : Str} (hv : i ∈ vs) (hN : X.N.Nodup) (hi : X.N[i]? = some x := by rfl) (hx : Loc X.env.scope x := by first | exact .inl rfl | exact .inr rfl) (hf : X.fn x = true ∨ X.env.scope.names.lookup x = some .local := by first | exact .inl rfl | exact .inr rfl) : DG X W (.Name x pos) vs (gNm i) :=
  ⟨_, pg_name hN hi hx hf, fun B F H r σ d v Q R rp p => p _ F H (R.setF rp) (Same.refl F) (Off.set hv)⟩
theorem dgs_nil : DGs X W [] vs gsNil := by
  refine ⟨_, pgs_nil, fun B F H r σ d v Q R rp p => ?_⟩
  cases d with
  | nil => exact ⟨rp, p _ F H R (Same.refl F) Off.refl⟩
  | cons d ds => exact p.elim
theorem dgs_cons {e : Expr} {es : List Expr} {g : D → En → Res En} {h : List D → En → Res En} (h1 : DG X W e vs g) (h2 : DGs X W es vs h)
    (hs : (assignEach (e :: es) X.env).map (·.2) = assign e X.env :: (assignEach es X.env).map (·.2) := by rfl) : DGs X W (e :: es) vs (gsCons g h) := by
  obtain ⟨t, hp, he⟩ := h1.ex
  obtain ⟨u, kp, ke⟩ := h2.ex
  refine ⟨_, pgs_cons hp kp hs, fun B F H r σ d v Q R rp p => ?_⟩
  cases d with
  | nil => exact p.elim
  | cons d ds =>
    obtain ⟨w, ws, rfl, r1, r2⟩ := rp
    refine ⟨w, ws, rfl, he B F H r σ d w _ R r1 ?_⟩
    have p' : PoG X.K X.mg W B F σ vs Q ((g d r).bind fun r1 => h ds r1) := p
    cases q : g d r with
    | ok r' =>
      rw [q] at p'
      exact fun σ' F' H' R' s o => ke B F' H' r' σ' ds ws Q R' (repL_mono s _ _ r2) ((PoG.weak p' s).off o)
    | er c fs r' =>
      rw [q] at p'
      exact p'
    | bad =>
      rw [q] at p'
      exact p'
theorem dg_tup {es : List Expr} {k : Nat} {h : List D → En → Res En} {n : Nat} (hc : X.calm = true) (hh : DGs X W es vs h) (hn : (assignEach es X.env).length = n := by rfl) (hst : (assignEach es X.env).findIdx? (·.1) = none := by rfl) :
    DG X W (.Tuple es k pos) vs (gTp n h) := by
  obtain ⟨t, hp, he⟩ := hh.ex
  refine ⟨_, pg_tup hc hp hn hst, fun B F H r σ d v Q R rp p => ?_⟩
  cases d with
  | tup ds =>
    obtain ⟨a, xs, e1, hq, rl⟩ := rp
    have p' : PoG X.K X.mg W B F σ vs Q (if ds.length = n then h ds r else .bad) := p
    by_cases z : ds.length = n
    · rw [if_pos z] at p'
      exact ⟨a, xs, e1, sqT_mono R.fh hq, by rw [repL_len rl]; exact z, he B F H r σ ds xs Q R rl p'⟩
    · rw [if_neg z] at p'
      exact p'.elim
  | _ => exact p.elim
end

/-! ### statements -/
inductive SR where
  | nx (r : En) | rt (d : D) (r : En) | bk (r : En) | ct (r : En) | er (c : Str) (fs : List (Str × D)) (r : En) | bad
section
variable (K : PySem.W.Frag) (mg : Str → Option Value)
def PoS (W : WX) (B : Bg) (F : Hp) (Z : Ends) : SR → Prop
  | .nx r' => ∀ σ' F' H', Rel K mg B F' H' r' σ' → Same F F' → Z.nx σ' H'
  | .rt d r' => ∀ v σ' F' H', Rel K mg B F' H' r' σ' → Same F F' → rep K mg F' d v → Z.rt v H'
  | .bk r' => ∀ σ' F' H', Rel K mg B F' H' r' σ' → Same F F' → Z.bk σ' H'
  | .ct r' => ∀ σ' F' H', Rel K mg B F' H' r' σ' → Same F F' → Z.ct σ' H'
  | .er c fs r' => PoX K mg W B F c fs r'
  | .bad => False
def EntS (W : WX) (t : TS) (f : En → SR) : Prop := ∀ B F H r σ Z, Rel K mg B F H r σ → PoS K mg W B F Z (f r) → t Z σ H
end
structure DS (X : Cx) (W : WX) (st : Stmt) (f : En → SR) : Prop where
  ex : ∃ t, PS X st t ∧ EntS X.K X.mg W t f
structure DSs (X : Cx) (W : WX) (st : List Stmt) (f : En → SR) : Prop where
  ex : ∃ t, PSs X st t ∧ EntS X.K X.mg W t f
/-- an evaluation, then a statement's end -/
def sBind {α : Type} (m : Res α) (k : α → SR) : SR := match m with
  | .ok a => k a
  | .er c fs r => .er c fs r
  | .bad => .bad
section
variable {K : PySem.W.Frag} {mg : Str → Option Value} {W : WX} {B : Bg} {F F' H H' : Hp} {r : En} {σ : St} {Z : Ends}
theorem PoS.weak {m : SR} (h : PoS K mg W B F Z m) (e : Same F F') : PoS K mg W B F' Z m := by
  cases m with
  | nx r' => exact fun σ' F1 H1 R1 s => h σ' F1 H1 R1 (e.trans s)
  | rt d r' => exact fun v σ' F1 H1 R1 s => h v σ' F1 H1 R1 (e.trans s)
  | bk r' => exact fun σ' F1 H1 R1 s => h σ' F1 H1 R1 (e.trans s)
  | ct r' => exact fun σ' F1 H1 R1 s => h σ' F1 H1 R1 (e.trans s)
  | er c fs r' => exact PoX.weak h e
  | bad => exact h
theorem Ent.toS {α β : Type} {R : RR α β} {t : St → Hp → (β → Hp → Prop) → Prop} {f : En → Res (α × En)} {k : α × En → SR} {Q1 : β → Hp → Prop} (h : Ent K mg W R t f) (R1 : Rel K mg B F H r σ)
    (p : PoS K mg W B F Z (sBind (f r) k)) (c : ∀ a r' b F' H', Rel K mg B F' H' r' σ → Same F F' → R B σ r' F' H' a b → PoS K mg W B F' Z (k (a, r')) → Q1 b H') : t σ H Q1 := by
  refine h B F H r σ Q1 R1 ?_
  cases q : f r with
  | ok a =>
    obtain ⟨a, r'⟩ := a
    rw [q] at p
    exact fun b F1 H1 R1 s x => c a r' b F1 H1 R1 s x (PoS.weak (show PoS K mg W B F Z (k (a, r')) from p) s)
  | er c fs r' =>
    rw [q] at p
    exact p
  | bad =>
    rw [q] at p
    exact p
end
def sNop : En → SR := .nx
def sSeq (f g : En → SR) : En → SR := fun r => match f r with
  | .nx r' => g r'
  | x => x
def sRet (f : En → Res (D × En)) : En → SR := fun r => sBind (f r) fun p => .rt p.1 p.2
def sExpr (f : En → Res (D × En)) : En → SR := fun r => sBind (f r) fun p => .nx p.2
def sIf (t : En → Res (Bool × En)) (f g : En → SR) : En → SR := fun r => sBind (t r) fun p => match p.1 with
  | true => f p.2
  | false => g p.2
def sAsg (f : En → Res (D × En)) (g : D → En → Res En) : En → SR := fun r => sBind (f r) fun p => sBind (g p.1 p.2) .nx
def sSet (i : Nat) (f : En → Res (D × En)) : En → SR := fun r => sBind (f r) fun p => .nx (p.2.set i (some (.fz p.1)))
def sOwn (i : Nat) (f : En → Res (D × En)) : En → SR := fun r => sBind (f r) fun p => .nx (p.2.set i (some (.ow p.1)))
section
variable {X : Cx} {W : WX} {st : Stmt} {rest : List Stmt} {f g : En → SR} {e : Expr} {pos : Pos} {h : En → Res (D × En)}
theorem DSs.can {sts : List Stmt} (hh : DSs X W sts f) : ∃ t, PSs X sts t ∧ EntS X.K X.mg W t f := hh.ex
theorem dss_nil : DSs X W [] sNop := ⟨_, pss_nil, fun B F H r σ Z R p => p σ F H R (Same.refl F)⟩
theorem dss_one (h1 : DS X W st f) : DSs X W [st] f := by
  obtain ⟨t, hp, he⟩ := h1.ex
  exact ⟨t, pss_one hp, he⟩
theorem dss_cons (h1 : DS X W st f) (h2 : DSs X W rest g) : DSs X W (st :: rest) (sSeq f g) := by
  obtain ⟨t, hp, he⟩ := h1.ex
  obtain ⟨u, kp, ke⟩ := h2.ex
  refine ⟨_, pss_cons hp kp, fun B F H r σ Z R p => he B F H r σ _ R ?_⟩
  have p' : PoS X.K X.mg W B F Z (match f r with | .nx r' => g r' | x => x) := p
  cases q : f r with
  | nx r' =>
    rw [q] at p'
    exact fun σ' F' H' R' s => ke B F' H' r' σ' Z R' (PoS.weak p' s)
  | rt d r' =>
    rw [q] at p'
    exact p'
  | bk r' =>
    rw [q] at p'
    exact p'
  | ct r' =>
    rw [q] at p'
    exact p'
  | er c fs r' =>
    rw [q] at p'
    exact p'
  | bad =>
    rw [q] at p'
    exact p'
theorem ds_pass : DS X W (.Pass pos) sNop := ⟨_, ps_pass, fun B F H r σ Z R p => p σ F H R (Same.refl F)⟩
theorem ds_break : DS X W (.Break pos) .bk := ⟨_, ps_break, fun B F H r σ Z R p => p σ F H R (Same.refl F)⟩
theorem ds_continue : DS X W (.Continue pos) .ct := ⟨_, ps_continue, fun B F H r σ Z R p => p σ F H R (Same.refl F)⟩
theorem ds_never : DS X W st (fun _ => .bad) := ⟨_, ps_never, fun B F H r σ Z R p => p⟩
theorem dss_never {sts : List Stmt} : DSs X W sts (fun _ => .bad) := ⟨_, pss_never, fun B F H r σ Z R p => p⟩
theorem ds_ret (hh : DE X W e h) : DS X W (.Return (some e) pos) (sRet h) := by
  obtain ⟨t, hp, he⟩ := hh.ex
  exact ⟨_, ps_ret hp, fun B F H r σ Z R p => he.toS R p fun d r' v F' H' R' s x q => q v σ F' H' R' (Same.refl F') x⟩
theorem ds_retN : DS X W (.Return none pos) (fun r => .rt .non r) := ⟨_, ps_retN, fun B F H r σ Z R p => p .non σ F H R (Same.refl F) rfl⟩
theorem ds_expr (hh : DE X W e h) (hs : swapsWith e none pos.line X.env = pure false := by rfl) : DS X W (.Expr e pos) (sExpr h) := by
  obtain ⟨t, hp, he⟩ := hh.ex
  exact ⟨_, ps_expr hp hs, fun B F H r σ Z R p => he.toS R p fun d r' v F' H' R' s x q => q σ F' H' R' (Same.refl F')⟩
theorem ds_if {c : Expr} {a b : List Stmt} {t : En → Res (Bool × En)} (hc : DT X W c t) (ha : DSs X W a f) (hb : DSs X W b g) : DS X W (.If c a b pos) (sIf t f g) := by
  obtain ⟨tc, pc, ec⟩ := hc.ex
  obtain ⟨ta, pa, ea⟩ := ha.ex
  obtain ⟨tb, pb, eb⟩ := hb.ex
  refine ⟨_, ps_if pc pa pb, fun B F H r σ Z R p => ec.toS R p fun c r' c' F' H' R' s x q => ?_⟩
  cases (show c = c' from x)
  cases c with
  | true => exact ea B F' H' r' σ Z R' q
  | false => exact eb B F' H' r' σ Z R' q
theorem ds_set {i : Nat} {x : Str} {pos' : Pos} (hN : X.N.Nodup) (hh : DE X W e h) (hi : X.N[i]? = some x := by rfl) (hx : Loc X.env.scope x := by first | exact .inl rfl | exact .inr rfl) (hs : swapsWith e (some (.Name x pos')) pos.line X.env = pure false := by rfl)
    (hf : X.fn x = true ∨ X.env.scope.names.lookup x = some .local := by first | exact .inl rfl | exact .inr rfl) : DS X W (.Assign [.Name x pos'] e pos) (sSet i h) := by
  obtain ⟨t, hp, he⟩ := hh.ex
  exact ⟨_, ps_set hN hi hx hp hs hf, fun B F H r σ Z R p => he.toS R p fun d r' v F' H' R' s x q => q _ F' H' (R'.setF x) (Same.refl F')⟩
theorem ds_own {i : Nat} {x : Str} {pos' : Pos} (hN : X.N.Nodup) (hh : DN X W e h) (hi : X.N[i]? = some x := by rfl) (hx : Loc X.env.scope x := by first | exact .inl rfl | exact .inr rfl) (hs : swapsWith e (some (.Name x pos')) pos.line X.env = pure false := by rfl)
    (hf : X.fn x = true ∨ X.env.scope.names.lookup x = some .local := by first | exact .inl rfl | exact .inr rfl) : DS X W (.Assign [.Name x pos'] e pos) (sOwn i h) := by
  obtain ⟨t, hp, he⟩ := hh.ex
  refine ⟨_, ps_set hN hi hx hp hs hf, fun B F H r σ Z R p => he.toS R p fun d r' v F' H' R' s x q => ?_⟩
  obtain ⟨pa, rfl, h1, h2, h3, h4, h5⟩ := x
  exact q _ F' H' (R'.setO h1 h2 h3 h4 h5) (Same.refl F')
theorem ds_asg {tg : Expr} {vs : List Nat} {gg : D → En → Res En} (hh : DE X W e h) (hg : DG X W tg vs gg) (hs : swapsWithSole [tg] e pos.line X.env = pure false := by rfl) (hw : swappedStores [tg] e X.env = pure none := by rfl)
    (h1 : (assignEach [tg] X.env).map (·.2) = [assign tg X.env] := by rfl) : DS X W (.Assign [tg] e pos) (sAsg h gg) := by
  obtain ⟨t, hp, he⟩ := hh.ex
  obtain ⟨u, kp, ke⟩ := hg.ex
  refine ⟨_, ps_asg hp kp hs hw h1, fun B F H r σ Z R p => he.toS R p fun d r' v F' H' R' s x q => ke B F' H' r' σ d v _ R' x ?_⟩
  cases z : gg d r' with
  | ok r2 =>
    simp only [z, sBind] at q
    exact fun σ' F2 H2 R2 s2 _ => q σ' F2 H2 R2 s2
  | er c fs r2 =>
    simp only [z, sBind] at q
    exact q
  | bad =>
    simp only [z, sBind] at q
    exact q
end

/-! ### what is walked -/
section
variable (K : PySem.W.Frag) (mg : Str → Option Value)
/-- J gives the items ds, whatever frozen or new things come meanwhile -/
def Wk (F : Hp) (ds : List D) (J : It) : Prop := ∀ F' H', Same F F' → Same F' H' → (∀ i d, ds[i]? = some d → J.go i H' ∧ ∀ x H'', J.yld i H' x H'' → ∃ F'', Same F' F'' ∧ Same H' H'' ∧ Same F'' H'' ∧ (∀ a, F' a = none → H' a ≠ none → F'' a = none) ∧ rep K mg F'' d x) ∧ J.stop ds.length H'
def rI : RR (List D) It := fun _ _ _ F _ ds J => Wk K mg F ds J
end
structure DI (X : Cx) (W : WX) (tg iter : Expr) (f : En → Res (List D × En)) : Prop where
  ex : ∃ t, PI X tg iter t ∧ Ent X.K X.mg W (rI X.K X.mg) t f
theorem DI.can {X : Cx} {W : WX} {tg iter : Expr} {f : En → Res (List D × En)} (h : DI X W tg iter f) : PI X tg iter (tOf X.K X.mg W (rI X.K X.mg) f) := by
  obtain ⟨t, hp, he⟩ := h.ex
  exact ⟨fun pins s σ H Q I ⟨B, F, r, R, p⟩ => hp.run pins s σ H Q I (he B F H r σ Q R p)⟩

/-! ### for -/
def forD (g : D → En → Res En) (b : En → SR) : List D → En → SR
  | [], r => .nx r
  | d :: ds, r => sBind (g d r) fun r1 => match b r1 with
    | .nx r2 => forD g b ds r2
    | .ct r2 => forD g b ds r2
    | .bk r2 => .nx r2
    | x => x
def sFor (s : En → Res (List D × En)) (g : D → En → Res En) (b : En → SR) : En → SR := fun r => sBind (s r) fun p => forD g b p.1 p.2
section
variable {X : Cx} {W : WX} {pos : Pos}
theorem for_ent {wi : TI} {gt : TG} {tb : TS} {s : En → Res (List D × En)} {vs : List Nat} {g : D → En → Res En} {b : En → SR} (hi : Ent X.K X.mg W (rI X.K X.mg) wi s) (hg : EntG X.K X.mg W vs gt g) (hb : EntS X.K X.mg W tb b) : EntS X.K X.mg W (tFor wi gt tb) (sFor s g b) := by
  intro B F H r σ Z R p
  refine hi.toS R p fun ds r1 J F1 H1 R1 s1 wk p1 => ?_
  refine ⟨fun i m σ' H' => m = ds.length - i ∧ i ≤ ds.length ∧ ∃ F' r', Rel X.K X.mg B F' H' r' σ' ∧ Same F1 F' ∧ PoS X.K X.mg W B F' Z (forD g b (ds.drop i) r'), ⟨ds.length, by simp, Nat.zero_le _, F1, r1, R1, Same.refl F1, by simpa using p1⟩, ?_⟩
  rintro i m σ' H' ⟨rfl, hle, F', r', R', s', p'⟩
  obtain ⟨w1, w2⟩ := wk F' H' s' R'.fh
  by_cases hlt : i < ds.length
  · have e : ds[i]? = some ds[i] := List.getElem?_eq_getElem hlt
    obtain ⟨go, yl⟩ := w1 i _ e
    rw [List.drop_eq_getElem_cons hlt] at p'
    refine .inr ⟨go, fun σ2 H2 => ∃ F2 r2, Rel X.K X.mg B F2 H2 r2 σ2 ∧ Same F1 F2 ∧ PoS X.K X.mg W B F2 Z (forD g b (ds.drop (i + 1)) r2), fun σ2 H2 ⟨F2, r2, R2, s2, p2⟩ => ⟨ds.length - (i + 1), by omega, rfl, hlt, F2, r2, R2, s2, p2⟩, fun x H'' y => ?_⟩
    obtain ⟨F'', f1, f2, f3, f4, f5⟩ := yl x H'' y
    have R'' := R'.grow f2 f1 f3 f4
    refine hg B F'' H'' r' σ' _ x _ R'' f5 ?_
    have p2 := PoS.weak p' f1
    unfold forD at p2
    cases q : g ds[i] r' with
    | ok r2 =>
      simp only [q, sBind] at p2
      intro σ2 F2 H2 R2 s2 _
      refine hb B F2 H2 r2 σ2 _ R2 ?_
      have p3 := PoS.weak p2 s2
      cases q2 : b r2 with
      | nx r3 =>
        simp only [q2] at p3
        exact fun σ3 F3 H3 R3 s3 => ⟨F3, r3, R3, ((s'.trans f1).trans s2).trans s3, PoS.weak p3 s3⟩
      | ct r3 =>
        simp only [q2] at p3
        exact fun σ3 F3 H3 R3 s3 => ⟨F3, r3, R3, ((s'.trans f1).trans s2).trans s3, PoS.weak p3 s3⟩
      | bk r3 =>
        simp only [q2] at p3
        exact p3
      | rt d r3 =>
        simp only [q2] at p3
        exact p3
      | er c fs r3 =>
        simp only [q2] at p3
        exact p3
      | bad =>
        simp only [q2] at p3
        exact p3
    | er c fs r2 =>
      simp only [q, sBind] at p2
      exact p2
    | bad =>
      simp only [q, sBind] at p2
      exact p2
  · have e : i = ds.length := by omega
    subst e
    rw [List.drop_length] at p'
    exact .inl ⟨w2, p' σ' F' H' R' (Same.refl F')⟩
theorem ds_for {tg iter : Expr} {body : List Stmt} {s : En → Res (List D × En)} {vs : List Nat} {g : D → En → Res En} {b : En → SR} (hp : PassesOwn (model X.prog X.w) X.A X.env X.xe) (hc : X.calm = true) (hi : DI X W tg iter s) (hg : DG X W tg vs g) (hb : DSs X W body b)
    (hs : ∀ x, foldedSetIterable iter X.env x = pure x := by intro _; rfl) : DS X W (.For tg iter body [] pos) (sFor s g b) := by
  obtain ⟨ti, pi, ei⟩ := hi.ex
  obtain ⟨tg', pg, eg⟩ := hg.ex
  obtain ⟨tb, pb, eb⟩ := hb.ex
  exact ⟨_, ps_for hp hc pi pg pb hs, for_ent ei eg eb⟩
/-! ### while -/
def whileD (t : En → Res (Bool × En)) (b : En → SR) : Nat → En → SR
  | 0, _ => .bad
  | n + 1, r => sBind (t r) fun p => match p.1 with
    | true => (match b p.2 with
      | .nx r2 => whileD t b n r2
      | .ct r2 => whileD t b n r2
      | .bk r2 => .nx r2
      | x => x)
    | false => .nx p.2
def sWhile (n : Nat) (t : En → Res (Bool × En)) (b : En → SR) : En → SR := whileD t b n
theorem ds_while {c : Expr} {body : List Stmt} {t : En → Res (Bool × En)} {b : En → SR} (n : Nat) (hp : PassesOwn (model X.prog X.w) X.A X.env X.xe) (hc : DT X W c t) (hb : DSs X W body b) : DS X W (.While c body [] pos) (sWhile n t b) := by
  obtain ⟨tc, pc, ec⟩ := hc.ex
  obtain ⟨tb, pb, eb⟩ := hb.ex
  refine ⟨_, ps_while hp pc pb, fun B F H r σ Z R p => ?_⟩
  refine ⟨fun m σ' H' => ∃ F' r', Rel X.K X.mg B F' H' r' σ' ∧ PoS X.K X.mg W B F' Z (whileD t b m r'), ⟨n, F, r, R, p⟩, ?_⟩
  rintro m σ' H' ⟨F', r', R', p'⟩
  cases m with
  | zero => exact (show False from p').elim
  | succ m =>
    refine ec.toS (k := fun p => match p.1 with
      | true => (match b p.2 with
        | .nx r2 => whileD t b m r2
        | .ct r2 => whileD t b m r2
        | .bk r2 => .nx r2
        | x => x)
      | false => .nx p.2) R' p' fun c r1 c' F1 H1 R1 s1 x p1 => ?_
    cases (show c = c' from x)
    cases c with
    | true =>
      simp only at p1
      rw [if_pos rfl]
      refine ⟨fun σ2 H2 => ∃ F2 r2, Rel X.K X.mg B F2 H2 r2 σ2 ∧ PoS X.K X.mg W B F2 Z (whileD t b m r2), fun σ2 H2 ⟨F2, r2, R2, p2⟩ => ⟨m, Nat.lt_succ_self m, F2, r2, R2, p2⟩, ?_⟩
      refine eb B F1 H1 r1 σ' _ R1 ?_
      cases q2 : b r1 with
      | nx r3 =>
        simp only [q2] at p1
        exact fun σ3 F3 H3 R3 s3 => ⟨F3, r3, R3, PoS.weak p1 s3⟩
      | ct r3 =>
        simp only [q2] at p1
        exact fun σ3 F3 H3 R3 s3 => ⟨F3, r3, R3, PoS.weak p1 s3⟩
      | bk r3 =>
        simp only [q2] at p1
        exact p1
      | rt d r3 =>
        simp only [q2] at p1
        exact p1
      | er c fs r3 =>
        simp only [q2] at p1
        exact p1
      | bad =>
        simp only [q2] at p1
        exact p1
    | false =>
      simp only at p1
      rw [if_neg Bool.false_ne_true]
      exact p1 σ' F1 H1 R1 (Same.refl F1)
end
end Dl

set_option Elab.async false
set_option linter.all false
set_option maxRecDepth 100000
set_option maxHeartbeats 4000000
namespace Dl
open PySem L2

/-! ### an object of one's own, kept while other things are evaluated -/
def Bg.guard (B : Bg) (p : Addr) (o : HO) : Bg := { B with H := upd B.H p o }
section
variable {K : PySem.W.Frag} {mg : Str → Option Value} {B : Bg} {F F' H H' : Hp} {r : En} {σ : St} {p : Addr} {o : HO}
theorem Rel.guard (R : Rel K mg B F H r σ) (hp : H p = some o) (hF : F p = none) (hB : B.H p = none) (hb : p ∉ B.bs) (hl : Loose r σ p) : Rel K mg (B.guard p o) F H r σ where
  fh := R.fh
  f0 := R.f0
  keep := fun a u ha h => by
    have h' : upd B.H p o a = some u := h
    by_cases q : a = p
    · rw [q, upd_same] at h'
      rw [q]
      exact hp.trans h'
    · rw [upd_ne q] at h'
      exact R.keep a u ha h'
  fresh := fun a h1 h2 => by
    have h2' : upd B.H p o a ≠ none := h2
    by_cases q : a = p
    · rw [q]
      exact hF
    · rw [upd_ne q] at h2'
      exact R.fresh a h1 h2'
  live := fun a ha => by
    obtain ⟨h1, h2⟩ := R.live a ha
    refine ⟨h1, ?_⟩
    show upd B.H p o a ≠ none
    rw [upd_ne fun z => hb (by rw [← z]; exact ha)]
    exact h2
  len := R.len
  slot := fun i s h => by
    have q := R.slot i s h
    cases s with
    | fz d => exact q
    | ow d =>
      obtain ⟨p', e', h1, h2, h3, h4⟩ := q
      refine ⟨p', e', h1, ?_, h3, h4⟩
      show upd B.H p o p' = none
      rw [upd_ne fun z => hl i _ h rfl (by rw [← z]; exact e')]
      exact h2
    | bo d => exact q
  apart := R.apart
theorem Rel.unguard (R : Rel K mg (B.guard p o) F H r σ) (hB : B.H p = none) (hb : p ∉ B.bs) (hf : B.F p = none) : Rel K mg B F H r σ ∧ H p = some o ∧ F p = none ∧ Loose r σ p := by
  have hp : H p = some o := R.keep p o hb (show upd B.H p o p = some o from upd_same)
  have hF : F p = none := R.fresh p hf (by show upd B.H p o p ≠ none; rw [upd_same]; exact fun z => nomatch z)
  refine ⟨⟨R.fh, R.f0, fun a u ha h => R.keep a u ha ?_, fun a h1 h2 => R.fresh a h1 ?_, fun a ha => ?_, R.len, fun i s h => ?_, R.apart⟩, hp, hF, fun i s h m e => ?_⟩
  · show upd B.H p o a = some u
    rw [upd_ne (ne_of_none h hB)]
    exact h
  · show upd B.H p o a ≠ none
    by_cases q : a = p
    · rw [q, upd_same]
      exact fun z => nomatch z
    · rw [upd_ne q]
      exact h2
  · obtain ⟨h1, h2⟩ := R.live a ha
    refine ⟨h1, ?_⟩
    have h2' : upd B.H p o a ≠ none := h2
    rw [upd_ne fun z => hb (by rw [← z]; exact ha)] at h2'
    exact h2'
  · have q := R.slot i s h
    cases s with
    | fz d => exact q
    | ow d =>
      obtain ⟨p', e', h1, h2, h3, h4⟩ := q
      refine ⟨p', e', h1, ?_, h3, h4⟩
      have h2' : upd B.H p o p' = none := h2
      by_cases z : p' = p
      · rw [z, upd_same] at h2'
        cases h2'
      · rw [upd_ne z] at h2'
        exact h2'
    | bo d => exact q
  · have q := R.slot i s h
    cases s with
    | fz d => cases m
    | ow d =>
      obtain ⟨p', e', h1, h2, h3, h4⟩ := q
      rw [e'] at e
      cases e
      have h2' : upd B.H p o p = none := h2
      rw [upd_same] at h2'
      cases h2'
    | bo d =>
      obtain ⟨p', e', h1, h2, h3⟩ := q
      rw [e'] at e
      cases e
      exact hb h2
/-- .. and changed by oneself -/
theorem Rel.poke {o' : HO} (R : Rel K mg B F H r σ) (hF : F p = none) (hB : B.H p = none) (hb : p ∉ B.bs) (hl : Loose r σ p) : Rel K mg B F (upd H p o') r σ where
  fh := fun a u e => by
    rw [upd_ne (ne_of_none e hF)]
    exact R.fh _ _ e
  f0 := R.f0
  keep := fun a u ha h => by
    rw [upd_ne (ne_of_none h hB)]
    exact R.keep a u ha h
  fresh := R.fresh
  live := fun a ha => by
    obtain ⟨h1, h2⟩ := R.live a ha
    refine ⟨?_, h2⟩
    rw [upd_ne fun z => hb (by rw [← z]; exact ha)]
    exact h1
  len := R.len
  slot := fun i s h => by
    have q := R.slot i s h
    cases s with
    | fz d => exact q
    | ow d =>
      obtain ⟨p', e', h1, h2, h3, h4⟩ := q
      exact ⟨p', e', h1, h2, h3, own_mono (Same.refl F) (upd_ne fun z => hl i _ h rfl (by rw [← z]; exact e')) d h4⟩
    | bo d =>
      obtain ⟨p', e', h1, h2, h3⟩ := q
      exact ⟨p', e', h1, h2, own_mono (Same.refl F) (upd_ne fun z => hl i _ h rfl (by rw [← z]; exact e')) d h3⟩
  apart := R.apart
end

/-! ### comprehensions -/
def noX {α : Type} : Res α → Res α
  | .ok a => .ok a
  | _ => .bad
def wipeE (r : En) : List Nat → En
  | [] => r
  | v :: vs => (wipeE r vs).set v none
def restore (r1 : En) : List Nat → En → En
  | [], r => r
  | v :: vs, r => match r1[v]? with
    | some (some (.fz d)) => (restore r1 vs r).set v (some (.fz d))
    | _ => restore r1 vs r
section
variable {K : PySem.W.Frag} {mg : Str → Option Value} {B : Bg} {F F' H H' F1 H1 : Hp} {r r1 : En} {σ : St} {p : Addr} {o : HO}
theorem wipeE_length (r : En) : ∀ vs, (wipeE r vs).length = r.length
  | [] => rfl
  | v :: vs => by
    show ((wipeE r vs).set v none).length = _
    rw [List.length_set, wipeE_length r vs]
theorem wipeE_some {i : Nat} {s : Sl} : ∀ {vs : List Nat}, (wipeE r vs)[i]? = some (some s) → i ∉ vs
  | [], h => by simp
  | v :: vs, h => by
    have h' : ((wipeE r vs).set v none)[i]? = some (some s) := h
    rw [get_set] at h'
    by_cases q : v = i
    · rw [if_pos q] at h'
      split at h' <;> cases h'
    · rw [if_neg q] at h'
      have z := wipeE_some h'
      simp only [List.mem_cons, not_or]
      exact ⟨fun w => q w.symm, z⟩
theorem Rel.wipe (R : Rel K mg B F H r σ) : ∀ vs, Rel K mg B F H (wipeE r vs) (L2.wipe σ vs)
  | [] => R
  | v :: vs => (R.wipe vs).drop
theorem Rel.unwipe {vs : List Nat} (R : Rel K mg B F H (wipeE r vs) (L2.wipe σ vs)) : Rel K mg B F H (wipeE r vs) σ where
  fh := R.fh
  f0 := R.f0
  keep := R.keep
  fresh := R.fresh
  live := R.live
  len := by
    have h := R.len
    rw [wipe_length] at h
    exact h
  slot := fun i s h => by
    have q := R.slot i s h
    have n := wipeE_some h
    rw [wipe_get, if_neg n] at q
    exact q
  apart := fun i j s t p' ne hi hj ms mt ei => by
    have n1 := wipeE_some hi
    have n2 := wipeE_some hj
    have z := R.apart i j s t p' ne hi hj ms mt (by rw [wipe_get, if_neg n1]; exact ei)
    rw [wipe_get, if_neg n2] at z
    exact z
theorem Rel.restore (R1 : Rel K mg B F1 H1 r1 σ) (s : Same F1 F) : ∀ (vs : List Nat) (r : En), Rel K mg B F H r σ → Rel K mg B F H (restore r1 vs r) σ
  | [], r, R => R
  | v :: vs, r, R => by
    have R2 := Rel.restore R1 s vs r R
    unfold Dl.restore
    split
    · rename_i d e
      obtain ⟨v', e', h'⟩ := R1.slot v _ e
      have R3 := R2.setF (i := v) (rep_mono s d v' h')
      have es : σ.set v (some v') = σ := by
        refine List.ext_getElem? fun j => ?_
        rw [get_set]
        by_cases q : v = j
        · subst q
          have hlt := (List.getElem?_eq_some_iff.mp e').1
          rw [if_pos rfl, if_pos hlt, e']
        · rw [if_neg q]
      rw [es] at R3
      exact R3
    · exact R2
theorem repL_snoc {d : D} {v : V} : ∀ {ds : List D} {vs : List V}, repL K mg F ds vs → rep K mg F d v → repL K mg F (ds ++ [d]) (vs ++ [v])
  | [], _, h, h' => by
    cases h
    exact ⟨v, [], rfl, h', rfl⟩
  | e :: ds, _, h, h' => by
    obtain ⟨w, ws, rfl, h1, h2⟩ := h
    exact ⟨w, ws ++ [v], rfl, h1, repL_snoc h2 h'⟩
end
def lcLoop (g : D → En → Res En) (t : En → Res (Bool × En)) (e : En → Res (D × En)) (vs : List Nat) : List D → En → List D → Res (List D × En)
  | [], r, acc => .ok (acc, r)
  | d :: ds, r, acc => (noX (g d r)).bind fun r1 => (noX (t r1)).bind fun p => match p.1 with
    | true => (noX (e p.2)).bind fun q => lcLoop g t e vs ds (wipeE q.2 vs) (acc ++ [q.1])
    | false => lcLoop g t e vs ds (wipeE p.2 vs) acc
def eLc (s : En → Res (List D × En)) (g : D → En → Res En) (t : En → Res (Bool × En)) (e : En → Res (D × En)) (vs : List Nat) : En → Res (D × En) := fun r =>
  (s r).bind fun p => if p.1.length ≤ 100000 then (noX (lcLoop g t e vs p.1 (wipeE p.2 vs) [])).bind fun q => .ok (.lst q.1, restore p.2 vs q.2) else .bad
abbrev W0 : WX := fun _ _ _ _ => False
structure DTs (X : Cx) (W : WX) (ifs : List Expr) (f : En → Res (Bool × En)) : Prop where
  ex : ∃ t, PTs X ifs t ∧ Ent X.K X.mg W rT t f
def tYesD : En → Res (Bool × En) := fun r => .ok (true, r)
theorem sl100k {n : Nat} (h : n < 100000) : n < sizeLine := Nat.lt_of_lt_of_le h (by decide)
section
variable {X : Cx} {W : WX} {pos : Pos}
theorem dts_nil : DTs X W [] tYesD := ⟨_, pts_nil, fun B F H r σ Q R p => p true F H R (Same.refl F) rfl⟩
theorem dts_one {c : Expr} {f : En → Res (Bool × En)} (h : DT X W c f) : DTs X W [c] f := by
  obtain ⟨t, hp, he⟩ := h.ex
  exact ⟨t, pts_one hp, he⟩
theorem DTs.can {ifs : List Expr} {f : En → Res (Bool × En)} (h : DTs X W ifs f) : PTs X ifs (tOf X.K X.mg W rT f) := by
  obtain ⟨t, hp, he⟩ := h.ex
  exact ⟨fun pins s σ H Q I ⟨B, F, r, R, p⟩ => hp.run pins s σ H Q I (he B F H r σ Q R p)⟩
theorem noX_ok {α : Type} {m : Res α} {a : α} (h : noX m = .ok a) : m = .ok a := by
  cases m with
  | ok b => exact h
  | er c fs r => cases h
  | bad => cases h
theorem noX_cases {α : Type} (m : Res α) : (∃ a, m = .ok a ∧ noX m = .ok a) ∨ noX m = .bad := by
  cases m with
  | ok b => exact .inl ⟨b, rfl, rfl⟩
  | er c fs r => exact .inr rfl
  | bad => exact .inr rfl
theorem lc_ent {K : PySem.W.Frag} {mg : Str → Option Value} {wi : TI} {s : En → Res (List D × En)} {vs : List Nat} {g : D → En → Res En} {t : En → Res (Bool × En)} {e : En → Res (D × En)} (hi : Ent K mg W (rI K mg) wi s) :
    Ent K mg W (rN K mg) (tLc wi (tOfG K mg W0 vs g) (tOf K mg W0 rT t) (tOf K mg W0 (rE K mg) e) vs) (eLc s g t e vs) := by
  intro B F H r σ Q R p
  refine hi.to R p fun ds r1 J F1 H1 R1 s1 wk p1 => ?_
  intro Dl hD
  by_cases hz : ds.length ≤ 100000
  · simp only [if_pos hz] at p1
    obtain ⟨nB, nb⟩ := R1.new_ne hD
    have fD : F1 Dl = none := R1.fh.free hD
    have bF : B.F Dl = none := R1.f0.free fD
    refine ⟨fun i m H' => m = ds.length - i ∧ i ≤ ds.length ∧ ∃ F' r0 acc ac, Rel K mg B F' H' (wipeE r0 vs) (wipe σ vs) ∧ Same F1 F' ∧ H' Dl = some (.lst ac) ∧ F' Dl = none ∧ Loose (wipeE r0 vs) (wipe σ vs) Dl ∧ repL K mg F' acc ac ∧ acc.length ≤ i ∧
        Po K mg W B F' σ (rN K mg) Q ((noX (lcLoop g t e vs (ds.drop i) (wipeE r0 vs) acc)).bind fun q => .ok (.lst q.1, restore r1 vs q.2)), ⟨ds.length, by simp, Nat.zero_le _, F1, r1, [], [], (R1.newO hD).wipe vs, Same.refl F1, upd_same, fD, ?_, rfl, Nat.zero_le _, by simpa using p1⟩, ?_⟩
    · exact (R1.wipe vs).loose_new hD
    · rintro i m H' ⟨rfl, hle, F', r0, acc, ac, R', s', hH, hF, hl, ra, la, p'⟩
      obtain ⟨w1, w2⟩ := wk F' H' s' R'.fh
      by_cases hlt : i < ds.length
      · have ei : ds[i]? = some ds[i] := List.getElem?_eq_getElem hlt
        obtain ⟨go, yl⟩ := w1 i _ ei
        rw [List.drop_eq_getElem_cons hlt] at p'
        refine .inr ⟨go, fun H2 => ∃ F2 r2 acc2 ac2, Rel K mg B F2 H2 (wipeE r2 vs) (wipe σ vs) ∧ Same F1 F2 ∧ H2 Dl = some (.lst ac2) ∧ F2 Dl = none ∧ Loose (wipeE r2 vs) (wipe σ vs) Dl ∧ repL K mg F2 acc2 ac2 ∧ acc2.length ≤ i + 1 ∧
          Po K mg W B F2 σ (rN K mg) Q ((noX (lcLoop g t e vs (ds.drop (i + 1)) (wipeE r2 vs) acc2)).bind fun q => .ok (.lst q.1, restore r1 vs q.2)), fun H2 ⟨F2, r2, acc2, ac2, h2⟩ => ⟨ds.length - (i + 1), by omega, rfl, hlt, F2, r2, acc2, ac2, h2⟩, fun x H'' y => ?_⟩
        obtain ⟨F'', f1, f2, f3, f4, f5⟩ := yl x H'' y
        have Rg := ((R'.guard hH hF nB nb hl).grow f2 f1 f3 f4)
        have p2 := Po.weak p' f1
        unfold lcLoop at p2
        refine ⟨_, F'', wipeE r0 vs, ds[i], Rg, f5, ?_⟩
        rcases noX_cases (g ds[i] (wipeE r0 vs)) with ⟨r2, q1, q2⟩ | q2
        · rw [q1]
          rw [q2] at p2
          intro σ2 F2 H2 R2 s2 off2
          refine ⟨by rw [Off.wipe off2]; exact Off.wipe off_wipe, _, F2, r2, R2, ?_⟩
          have p3 := Po.weak p2 s2
          simp only [bind_ok] at p3
          rcases noX_cases (t r2) with ⟨⟨c, r3⟩, q3, q4⟩ | q4
          · rw [q3]
            rw [q4] at p3
            intro c' F3 H3 R3 s3 x3
            cases (show c = c' from x3)
            have p4 := Po.weak p3 s3
            simp only [bind_ok] at p4
            cases c with
            | true =>
              rw [if_pos rfl]
              refine ⟨_, F3, r3, R3, ?_⟩
              simp only at p4
              rcases noX_cases (e r3) with ⟨⟨d, r4⟩, q5, q6⟩ | q6
              · rw [q5]
                rw [q6] at p4
                intro v F4 H4 R4 s4 x4
                have p5 := Po.weak p4 s4
                simp only [bind_ok] at p5
                obtain ⟨R5, hH5, hF5, hl5⟩ := R4.unguard nB nb bF
                refine ⟨ac, hH5, sl100k (by rw [repL_len ra]; omega), F4, r4, acc ++ [d], ac ++ [v], ?_, (((s'.trans f1).trans s2).trans s3).trans s4, upd_same, hF5, ?_, repL_snoc (repL_mono (((f1.trans s2).trans s3).trans s4) _ _ ra) x4, by rw [List.length_append, List.length_singleton]; omega, p5⟩
                · have z := (R5.poke (o' := .lst (ac ++ [v])) hF5 nB nb hl5).wipe vs
                  have z2 : wipe σ2 vs = wipe σ vs := by rw [Off.wipe off2]; exact Off.wipe off_wipe
                  rw [z2] at z
                  exact z
                · intro j s0 hj mj ej
                  have nj := wipeE_some hj
                  rw [wipe_get, if_neg nj] at ej
                  have R6 := (R5.wipe vs)
                  have z2 : wipe σ2 vs = wipe σ vs := by rw [Off.wipe off2]; exact Off.wipe off_wipe
                  have e2 : (wipe σ2 vs)[j]? = some (some (.ref Dl)) := by rw [z2, wipe_get, if_neg nj]; exact ej
                  obtain ⟨_, hu⟩ := R6.own_live hj mj e2
                  have q := R6.slot j s0 hj
                  cases s0 with
                  | fz d0 => cases mj
                  | ow d0 =>
                    have Rg4 := R4.wipe vs
                    obtain ⟨p', e', _, h2', _⟩ := Rg4.slot j _ hj
                    rw [e2] at e'
                    cases e'
                    have h3' : upd B.H Dl (.lst ac) Dl = none := h2'
                    rw [upd_same] at h3'
                    cases h3'
                  | bo d0 =>
                    obtain ⟨p', e', _, h2', _⟩ := q
                    rw [e2] at e'
                    cases e'
                    exact nb h2'
              · rw [q6] at p4
                exact p4.elim
            | false =>
              rw [if_neg Bool.false_ne_true]
              simp only at p4
              obtain ⟨R5, hH5, hF5, hl5⟩ := R3.unguard nB nb bF
              have z2 : wipe σ2 vs = wipe σ vs := by rw [Off.wipe off2]; exact Off.wipe off_wipe
              refine ⟨F3, r3, acc, ac, ?_, ((s'.trans f1).trans s2).trans s3, hH5, hF5, ?_, repL_mono ((f1.trans s2).trans s3) _ _ ra, by omega, p4⟩
              · have z := R5.wipe vs
                rw [z2] at z
                exact z
              · have Rg4 := R3.wipe vs
                rw [z2] at Rg4
                exact (Rg4.unguard nB nb bF).2.2.2
          · rw [q4] at p3
            exact p3.elim
        · rw [q2] at p2
          exact p2.elim
      · have ei : i = ds.length := by omega
        subst ei
        rw [List.drop_length] at p'
        refine .inl ⟨w2, ?_⟩
        have p2 : Po K mg W B F' σ (rN K mg) Q (.ok (.lst acc, restore r1 vs (wipeE r0 vs))) := p'
        have R3 := Rel.restore R1 s' vs _ R'.unwipe
        refine p2 _ F' H' R3 (Same.refl F') ⟨Dl, rfl, hF, nB, nb, ?_, ac, hH, ra⟩
        intro j s0 hj mj ej
        have q := R3.slot j s0 hj
        have Rg3 := Rel.restore (R1.newO (o := .lst ac) hD |>.guard upd_same fD nB nb (R1.loose_new hD)) s' vs _ (R'.unwipe.guard hH hF nB nb ?_)
        · exact (Rg3.unguard nB nb bF).2.2.2 j s0 hj mj ej
        · intro j2 s2 hj2 mj2 ej2
          have nj := wipeE_some hj2
          exact hl j2 s2 hj2 mj2 (by rw [wipe_get, if_neg nj]; exact ej2)
  · simp only [if_neg hz] at p1
    exact p1.elim
theorem dn_lc {elt tg iter : Expr} {ifs : List Expr} {scope : Scope} {own : List (Str × Nat)} {s : En → Res (List D × En)} {g : D → En → Res En} {t : En → Res (Bool × En)} {f : En → Res (D × En)} (hc : X.calm = true) (hN : X.N.Nodup) (hi : DI X W tg iter s) (ok : BlkOk X.N X.env.scope scope own)
    (hg : ∀ (s : Shared) (H : Hp) (C : Addr) (cl : List (Str × Addr)) (fp : List Addr), DG (X.blk s H scope (compEnvC scope cl C X.env) fp) W0 tg (own.map (·.2)) g)
    (ht : ∀ (s : Shared) (H : Hp) (C : Addr) (cl : List (Str × Addr)) (fp : List Addr), DTs (X.blk s H scope (compEnvC scope cl C X.env) fp) W0 ifs t)
    (he : ∀ (s : Shared) (H : Hp) (C : Addr) (cl : List (Str × Addr)) (fp : List Addr), DE (X.blk s H scope (compEnvC scope cl C X.env) fp) W0 elt f) (hs : ∀ x, foldedSetIterable iter X.env x = pure x := by intro _; rfl) :
    DN X W (.ListComp elt [⟨tg, iter, ifs, 0⟩] scope pos) (eLc s g t f (own.map (·.2))) := by
  obtain ⟨ti, pi, ei⟩ := hi.ex
  exact ⟨_, pe_lc hc hN pi ok (fun a b c d e => (hg a b c d e).can) (fun a b c d e => (ht a b c d e).can) (fun a b c d e => (he a b c d e).can) hs, lc_ent ei⟩
end
end Dl

set_option Elab.async false
set_option linter.all false
set_option maxRecDepth 100000
set_option maxHeartbeats 4000000
namespace Dl
open PySem L2

/-! ### defs: their promise by a denotation -/
section
variable (K : PySem.W.Frag) (mg : Str → Option Value)
structure Grow (p : Option Addr) (F H F' H' : Hp) : Prop where
  h : ∀ a o, p ≠ some a → H a = some o → H' a = some o
  f : Same F F'
  fh : Same F' H'
  fr : ∀ a, F a = none → H a ≠ none → F' a = none
def PoF (F H : Hp) (Q : VK) (E : XK) : Res D → Prop
  | .ok d => ∀ v F' H', Grow none F H F' H' → rep K mg F' d v → Q v H'
  | .er c fs _ => ∀ C od F' H', mg c = some (.ref C) → Grow none F H F' H' → xdOk K mg F' H' fs od → E (.ref C) od H'
  | .bad => False
def spD (den : List D → Res D) : Sp := fun vs H Q E => ∃ F ds, Same F H ∧ repL K mg F ds vs ∧ PoF K mg F H Q E (den ds)
/-- the first parameter is an object that the def may change -/
def PoB (p : Addr) (F H : Hp) (Q : VK) (E : XK) : Res (D × D) → Prop
  | .ok (d, d1) => ∀ v F' H', Grow (some p) F H F' H' → F' p = none → ownAt K mg F' H' p d1 → rep K mg F' d v → Q v H'
  | .er c fs _ => ∀ C od F' H', mg c = some (.ref C) → Grow (some p) F H F' H' → H' p ≠ none → xdOk K mg F' H' fs od → E (.ref C) od H'
  | .bad => False
def spB (den : D → List D → Res (D × D)) : Sp := fun vs H Q E => ∃ F p d0 ds ws, vs = .ref p :: ws ∧ Same F H ∧ F p = none ∧ ownAt K mg F H p d0 ∧ repL K mg F ds ws ∧ PoB K mg p F H Q E (den d0 ds)
end
def startE (n : Nat) (ds : List D) : En := ds.map (fun d => some (.fz d)) ++ List.replicate (n - ds.length) none
def startB (n : Nat) (d0 : D) (ds : List D) : En := some (.bo d0) :: (ds.map (fun d => some (.fz d)) ++ List.replicate (n - (ds.length + 1)) none)
def runF (n np : Nat) (f : En → SR) (ds : List D) : Res D := if ds.length = np then (match f (startE n ds) with
  | .rt d _ => .ok d
  | .nx _ => .ok .non
  | .er c fs r => .er c fs r
  | _ => .bad) else .bad
def endB (d : D) (r : En) : Res (D × D) := match (r[0]? : Option (Option Sl)) with
  | some (some (Sl.bo d1)) => .ok (d, d1)
  | _ => .bad
def runB (n np : Nat) (f : En → SR) (d0 : D) (ds : List D) : Res (D × D) := if ds.length + 1 = np then (match f (startB n d0 ds) with
  | .rt d r => endB d r
  | .nx r => endB .non r
  | .er c fs r => .er c fs r
  | _ => .bad) else .bad
section
variable {K : PySem.W.Frag} {mg : Str → Option Value} {F H : Hp}
theorem repL_get : ∀ {ds : List D} {vs : List V} {i : Nat} {d : D}, repL K mg F ds vs → ds[i]? = some d → ∃ v, vs[i]? = some v ∧ rep K mg F d v
  | [], _, _, _, _, h => by simp at h
  | d0 :: ds, _, 0, d, h, e => by
    obtain ⟨w, ws, rfl, h1, h2⟩ := h
    simp at e
    subst e
    exact ⟨w, rfl, h1⟩
  | d0 :: ds, _, i + 1, d, h, e => by
    obtain ⟨w, ws, rfl, h1, h2⟩ := h
    obtain ⟨v, e1, e2⟩ := repL_get (i := i) (d := d) h2 (by simpa using e)
    exact ⟨v, by simpa using e1, e2⟩
theorem rel_start {N : List Str} {ds : List D} {vs : List V} (s : Same F H) (h : repL K mg F ds vs) : Rel K mg ⟨F, H, []⟩ F H (startE N.length ds) (L2.start N vs) where
  fh := s
  f0 := Same.refl F
  keep := fun _ _ _ h => h
  fresh := fun _ h _ => h
  live := fun _ h => by cases h
  len := by
    unfold startE L2.start
    simp [repL_len h]
  slot := fun i sl e => by
    unfold startE at e
    rw [List.getElem?_append] at e
    by_cases q : i < (ds.map fun d => some (Sl.fz d)).length
    · rw [if_pos q, List.getElem?_map] at e
      cases z : ds[i]? with
      | none =>
        rw [z] at e
        cases e
      | some d =>
        rw [z] at e
        cases e
        obtain ⟨v, e1, e2⟩ := repL_get h z
        refine ⟨v, ?_, e2⟩
        unfold L2.start
        rw [List.getElem?_append_left (by rw [List.length_map]; exact (List.getElem?_eq_some_iff.mp e1).1), List.getElem?_map, e1]
        rfl
    · rw [if_neg q, List.getElem?_replicate] at e
      split at e <;> cases e
  apart := fun i j sl t p ne hi hj ms mt ei => by
    exfalso
    unfold startE at hi
    rw [List.getElem?_append] at hi
    by_cases q : i < (ds.map fun d => some (Sl.fz d)).length
    · rw [if_pos q, List.getElem?_map] at hi
      cases z : ds[i]? with
      | none =>
        rw [z] at hi
        cases hi
      | some d =>
        rw [z] at hi
        cases hi
        cases ms
    · rw [if_neg q, List.getElem?_replicate] at hi
      split at hi <;> cases hi
theorem startB_get {n : Nat} {d0 : D} {ds : List D} {i : Nat} {sl : Sl} (e : (startB n d0 ds)[i]? = some (some sl)) : (i = 0 ∧ sl = .bo d0) ∨ ∃ j d, i = j + 1 ∧ ds[j]? = some d ∧ sl = .fz d := by
  cases i with
  | zero =>
    unfold startB at e
    simp at e
    exact .inl ⟨rfl, e.symm⟩
  | succ i =>
    unfold startB at e
    rw [List.getElem?_cons_succ, List.getElem?_append] at e
    by_cases q : i < (ds.map fun d => some (Sl.fz d)).length
    · rw [if_pos q, List.getElem?_map] at e
      cases z : ds[i]? with
      | none =>
        rw [z] at e
        cases e
      | some d =>
        rw [z] at e
        cases e
        exact .inr ⟨i, d, rfl, z, rfl⟩
    · rw [if_neg q, List.getElem?_replicate] at e
      split at e <;> cases e
theorem rel_startB {N : List Str} {p : Addr} {d0 : D} {ds : List D} {vs : List V} (s : Same F H) (hp : F p = none) (ho : ownAt K mg F H p d0) (h : repL K mg F ds vs) : Rel K mg ⟨F, H, [p]⟩ F H (startB N.length d0 ds) (L2.start N (.ref p :: vs)) where
  fh := s
  f0 := Same.refl F
  keep := fun _ _ _ h => h
  fresh := fun _ h _ => h
  live := fun a ha => by
    have e : a = p := by simpa using ha
    subst e
    obtain ⟨o, e⟩ := own_there d0 ho
    rw [e]
    exact ⟨fun z => (nomatch z), by show H a ≠ none; rw [e]; exact fun z => (nomatch z)⟩
  len := by
    unfold startB L2.start
    simp [repL_len h]
  slot := fun i sl e => by
    rcases startB_get e with ⟨rfl, rfl⟩ | ⟨j, d, rfl, z, rfl⟩
    · exact ⟨p, by unfold L2.start; simp, hp, by simp, ho⟩
    · obtain ⟨v, e1, e2⟩ := repL_get h z
      refine ⟨v, ?_, e2⟩
      unfold L2.start
      rw [List.getElem?_append_left (by rw [List.length_map, List.length_cons]; have := (List.getElem?_eq_some_iff.mp e1).1; omega), List.getElem?_map, List.getElem?_cons_succ, e1]
      rfl
  apart := fun i j sl t q ne hi hj ms mt ei => by
    rcases startB_get hi with ⟨rfl, rfl⟩ | ⟨_, d, rfl, z, rfl⟩
    · rcases startB_get hj with ⟨rfl, rfl⟩ | ⟨_, d, rfl, z, rfl⟩
      · exact absurd rfl ne
      · cases mt
    · cases ms
end
/-- the body of a def, in every context in which it may run: its denotation -/
def BodyOk (P : Program) (w : World) (K : PySem.W.Frag) (mg : Str → Option Value) (base : Heap) (k : Nat) (N : List Str) (qual : Str) (scope : Scope) (f : Addr) (body : List Stmt) (den : En → SR) : Prop :=
  ∀ (cdv : Value) (A : Around) (outer : List Env) (s : Shared) (H : Hp) (E : XK), Room k (A.deeper (PyProof.Rows.envOfC qual scope s.heap.objs.size f cdv)) →
    DSs (cxOf (L2.CX P w) P w K mg base N qual scope f cdv A outer s H E) (fun c d _ H' => E c d H') body den
section
variable {P : Program} {w : World} {K : PySem.W.Frag} {mg : Str → Option Value} {base : Heap} {x qual : Str} {params : Arguments} {body : List Stmt} {scope : Scope} {dvs : List V} {kws : List (Str × V)} {f : Addr} {fd : FuncData} {N ps : List Str} {k : Nat} {den : En → SR}
theorem fn_D (F : FunD K x qual params body scope dvs kws f fd) (S : FnScope N ps scope) (b : BodyOk P w K mg base k N qual scope f body den) : FnOk P w K mg base (L2.CX P w) (k + 1) f fd ps (spD K mg (runF N.length ps.length den)) := by
  refine F.ok S (fun vs H Q E h => ?_) (fun cdv A outer s H vs Q E hr h => ?_)
  · obtain ⟨F', ds, _, r, p⟩ := h
    rw [repL_len r]
    unfold runF at p
    split at p
    · assumption
    · exact p.elim
  · obtain ⟨F', ds, s', r, p⟩ := h
    obtain ⟨t, hp, he⟩ := (b cdv A outer s H E hr).ex
    refine ⟨t, hp, he ⟨F', H, []⟩ F' H _ _ _ (rel_start s' r) ?_⟩
    unfold runF at p
    split at p
    · cases q : den (startE N.length ds) with
      | rt d r' =>
        rw [q] at p
        exact fun v σ' F1 H1 R1 s1 x => p v F1 H1 ⟨fun a o _ h => R1.keep a o (by simp) h, s1, R1.fh, R1.fresh⟩ x
      | nx r' =>
        rw [q] at p
        exact fun σ' F1 H1 R1 s1 => p .non F1 H1 ⟨fun a o _ h => R1.keep a o (by simp) h, s1, R1.fh, R1.fresh⟩ rfl
      | er c fs r' =>
        rw [q] at p
        exact fun C od σ' F1 H1 m R1 s1 x => p C od F1 H1 m ⟨fun a o _ h => R1.keep a o (by simp) h, s1, R1.fh, R1.fresh⟩ x
      | bk r' =>
        rw [q] at p
        exact p.elim
      | ct r' =>
        rw [q] at p
        exact p.elim
      | bad =>
        rw [q] at p
        exact p.elim
    · exact p.elim
theorem endB_ok {B : Bg} {F H : Hp} {r : En} {σ : St} {p : Addr} {d d' d1 : D} (R : Rel K mg B F H r σ) (hb : B.bs = [p]) (e : endB d r = .ok (d', d1)) : d' = d ∧ F p = none ∧ ownAt K mg F H p d1 := by
  unfold endB at e
  split at e
  · rename_i d2 e2
    cases e
    obtain ⟨p', e1, h1, h2, h3⟩ := R.slot 0 _ e2
    rw [hb] at h2
    have z : p' = p := by simpa using h2
    subst z
    exact ⟨rfl, h1, h3⟩
  · cases e
theorem fn_B (F : FunD K x qual params body scope dvs kws f fd) (S : FnScope N ps scope) (b : BodyOk P w K mg base k N qual scope f body den) : FnOk P w K mg base (L2.CX P w) (k + 1) f fd ps (spB K mg (runB N.length ps.length den)) := by
  refine F.ok S (fun vs H Q E h => ?_) (fun cdv A outer s H vs Q E hr h => ?_)
  · obtain ⟨F', p, d0, ds, ws, rfl, _, _, _, r, q⟩ := h
    rw [List.length_cons, repL_len r]
    unfold runB at q
    split at q
    · assumption
    · exact q.elim
  · obtain ⟨F', p, d0, ds, ws, rfl, s', hp0, ho, r, q0⟩ := h
    obtain ⟨t, hp, he⟩ := (b cdv A outer s H E hr).ex
    refine ⟨t, hp, he ⟨F', H, [p]⟩ F' H _ _ _ (rel_startB s' hp0 ho r) ?_⟩
    have kp : ∀ {F1 H1 : Hp} {r1 : En} {σ1 : St}, Rel K mg ⟨F', H, [p]⟩ F1 H1 r1 σ1 → Same F' F1 → Grow (some p) F' H F1 H1 := fun R1 s1 => ⟨fun a o ne h => R1.keep a o (fun z => ne (by rw [List.mem_singleton.mp z])) h, s1, R1.fh, R1.fresh⟩
    unfold runB at q0
    split at q0
    · cases q : den (startB N.length d0 ds) with
      | rt d r' =>
        rw [q] at q0
        intro v σ' F1 H1 R1 s1 x
        cases z : endB d r' with
        | ok dd =>
          obtain ⟨d', d1⟩ := dd
          simp only [z] at q0
          obtain ⟨rfl, h1, h2⟩ := endB_ok R1 rfl z
          exact q0 v F1 H1 (kp R1 s1) h1 h2 x
        | er c fs r2 =>
          unfold endB at z
          split at z <;> cases z
        | bad =>
          simp only [z] at q0
          exact q0.elim
      | nx r' =>
        rw [q] at q0
        intro σ' F1 H1 R1 s1
        cases z : endB .non r' with
        | ok dd =>
          obtain ⟨d', d1⟩ := dd
          simp only [z] at q0
          obtain ⟨rfl, h1, h2⟩ := endB_ok R1 rfl z
          exact q0 .non F1 H1 (kp R1 s1) h1 h2 rfl
        | er c fs r2 =>
          unfold endB at z
          split at z <;> cases z
        | bad =>
          simp only [z] at q0
          exact q0.elim
      | er c fs r' =>
        rw [q] at q0
        exact fun C od σ' F1 H1 m R1 s1 x => q0 C od F1 H1 m (kp R1 s1) (R1.live p (by simp)).1 x
      | bk r' =>
        rw [q] at q0
        exact q0.elim
      | ct r' =>
        rw [q] at q0
        exact q0.elim
      | bad =>
        rw [q] at q0
        exact q0.elim
    · exact q0.elim
end

/-! ### calls -/
section
variable (P : Program) (w : World) (K : PySem.W.Frag) (mg : Str → Option Value) (base : Heap)
/-- the def at f, called with some arguments, the rest by defaults -/
structure CalA (k : Nat) (f : Addr) (den : List D → Res D) : Prop where
  ex : ∃ (fd : FuncData) (ps : List Str) (ds : List Value) (dvs : List V) (dds : List D) (den0 : List D → Res D), FnOk P w K mg base (L2.CX P w) k f fd ps (spD K mg den0) ∧ Binds K fd ps ds ∧ Vals dvs ds ∧ (∀ F, repL K mg F dds dvs) ∧ den = fun as => den0 (as ++ dds)
  kp : PySem.W.keepIn K (.ref f) = true
structure CalB (k : Nat) (f : Addr) (den : D → List D → Res (D × D)) : Prop where
  ex : ∃ (fd : FuncData) (ps : List Str) (ds : List Value) (dvs : List V) (dds : List D) (den0 : D → List D → Res (D × D)), FnOk P w K mg base (L2.CX P w) k f fd ps (spB K mg den0) ∧ Binds K fd ps ds ∧ Vals dvs ds ∧ (∀ F, repL K mg F dds dvs) ∧ den = fun d as => den0 d (as ++ dds)
  kp : PySem.W.keepIn K (.ref f) = true
end
def callR (m : Res D) (r : En) : Res (D × En) := match m with
  | .ok d => .ok (d, r)
  | .er c fs _ => .er c fs r
  | .bad => .bad
def eCall (den : List D → Res D) (f : En → Res (List D × En)) : En → Res (D × En) := fun r => (f r).bind fun p => callR (den p.1) p.2
/-- the slot's object may be changed by the call -/
def callRB (m : Res (D × D)) (i : Nat) (s : Sl) (r : En) : Res (D × En) := match m with
  | .ok (d, d1) => .ok (d, r.set i (some (s.put d1)))
  | .er c fs _ => .er c fs (r.set i none)
  | .bad => .bad
def isMine (r : En) (i : Nat) : Bool := match r[i]? with
  | some (some s) => s.mine
  | _ => false
def atMine {α : Type} (r : En) (i : Nat) (k : Sl → Res α) : Res α := match r[i]? with
  | some (some s) => if s.mine = true then k s else .bad
  | _ => .bad
def eCallB (den : D → List D → Res (D × D)) (i : Nat) (f : En → Res (List D × En)) : En → Res (D × En) := fun r => if isMine r i = true then (f r).bind fun p => atMine p.2 i fun s => callRB (den s.d p.1) i s p.2 else .bad
theorem isMine_ok {r : En} {i : Nat} (h : isMine r i = true) : ∃ s, r[i]? = some (some s) ∧ s.mine = true := by
  unfold isMine at h
  cases e : r[i]? with
  | none =>
    rw [e] at h
    cases h
  | some o =>
    cases o with
    | none =>
      rw [e] at h
      cases h
    | some s =>
      rw [e] at h
      exact ⟨s, rfl, h⟩
theorem atMine_cases {α : Type} (r : En) (i : Nat) (k : Sl → Res α) : atMine r i k = .bad ∨ ∃ s, r[i]? = some (some s) ∧ s.mine = true ∧ atMine r i k = k s := by
  unfold atMine
  cases e : r[i]? with
  | none => exact .inl rfl
  | some o =>
    cases o with
    | none => exact .inl rfl
    | some s =>
      by_cases m : s.mine = true
      · exact .inr ⟨s, rfl, m, by simp only [if_pos m]⟩
      · exact .inl (by simp only [if_neg m])
section
variable {K : PySem.W.Frag} {mg : Str → Option Value} {W : WX} {B : Bg} {F H : Hp} {r : En} {σ : St}
theorem repL_app : ∀ {ds es : List D} {vs ws : List V}, repL K mg F ds vs → repL K mg F es ws → repL K mg F (ds ++ es) (vs ++ ws)
  | [], _, _, _, h, h' => by
    cases h
    exact h'
  | d :: ds, _, _, _, h, h' => by
    obtain ⟨w, ws, rfl, h1, h2⟩ := h
    exact ⟨w, _, rfl, h1, repL_app h2 h'⟩
theorem Rel.growN {F' H' : Hp} (R : Rel K mg B F H r σ) (g : Grow none F H F' H') : Rel K mg B F' H' r σ := R.grow (fun a o h => g.h a o (fun z => nomatch z) h) g.f g.fh g.fr
/-- the slot's object was changed in a way that is not known -/
theorem Rel.lose {F' H' : Hp} {i : Nat} {s : Sl} {pa : Addr} (R : Rel K mg B F H r σ) (hs : r[i]? = some (some s)) (m : s.mine = true) (e : σ[i]? = some (some (.ref pa))) (g : Grow (some pa) F H F' H') (hz : H' pa ≠ none) : Rel K mg B F' H' (r.set i none) σ := by
  have pB : pa ∈ B.bs ∨ B.H pa = none := by
    have q := R.slot i s hs
    cases s with
    | fz d => cases m
    | ow d =>
      obtain ⟨p', e', _, hB, _, _⟩ := q
      rw [e] at e'
      cases e'
      exact .inr hB
    | bo d =>
      obtain ⟨p', e', _, hb, _⟩ := q
      rw [e] at e'
      cases e'
      exact .inl hb
  refine ⟨g.fh, R.f0.trans g.f, fun a o hb ho => ?_, fun a h1 h2 => ?_, fun a hb => ?_, by rw [List.length_set]; exact R.len, fun j t hj => ?_, fun a b s1 t1 q ne ha hb ms mt ea => ?_⟩
  · refine g.h a o (fun z => ?_) (R.keep a o hb ho)
    have z' : pa = a := Option.some.inj z
    rcases pB with w | w
    · exact hb (by rw [← z']; exact w)
    · rw [z'] at w
      rw [w] at ho
      cases ho
  · have h3 := R.fresh a h1 h2
    by_cases hb : a ∈ B.bs
    · exact g.fr a h3 (R.live a hb).1
    · cases q : B.H a with
      | none => exact absurd q h2
      | some o => exact g.fr a h3 (by rw [R.keep a o hb q]; exact fun z => nomatch z)
  · obtain ⟨h1, h2⟩ := R.live a hb
    refine ⟨?_, h2⟩
    by_cases ne : a = pa
    · rw [ne]
      exact hz
    · cases q : H a with
      | none => exact absurd q h1
      | some o => rw [g.h _ _ (fun z => ne (Option.some.inj z).symm) q]; exact fun z => nomatch z
  · rw [get_set] at hj
    by_cases q : i = j
    · rw [if_pos q] at hj
      split at hj <;> cases hj
    · rw [if_neg q] at hj
      have k := R.slot j t hj
      have nep : ∀ p', t.mine = true → σ[j]? = some (some (.ref p')) → p' ≠ pa := fun p' mt ej z => R.apart i j s t pa q hs hj m mt e (by rw [ej, z])
      cases t with
      | fz d1 =>
        obtain ⟨v, e1, h1⟩ := k
        exact ⟨v, e1, rep_mono g.f _ _ h1⟩
      | ow d1 =>
        obtain ⟨p', e', hF', hB', hb', h'⟩ := k
        have ne := nep p' rfl e'
        obtain ⟨o', ho'⟩ := own_there d1 h'
        exact ⟨p', e', g.fr p' hF' (by rw [ho']; exact fun z => nomatch z), hB', hb', own_mono g.f (by rw [ho']; exact g.h _ _ (fun z => ne (Option.some.inj z).symm) ho') d1 h'⟩
      | bo d1 =>
        obtain ⟨p', e', hF', hb', h'⟩ := k
        have ne := nep p' rfl e'
        obtain ⟨o', ho'⟩ := own_there d1 h'
        exact ⟨p', e', g.fr p' hF' (by rw [ho']; exact fun z => nomatch z), hb', own_mono g.f (by rw [ho']; exact g.h _ _ (fun z => ne (Option.some.inj z).symm) ho') d1 h'⟩
  · rw [get_set] at ha hb
    have key : ∀ (c : Nat) (u : Sl), (if i = c then (if c < r.length then some none else none) else r[c]?) = some (some u) → r[c]? = some (some u) := fun c u hc => by
      by_cases q : i = c
      · rw [if_pos q] at hc
        split at hc <;> cases hc
      · rw [if_neg q] at hc
        exact hc
    exact R.apart a b s1 t1 q ne (key a s1 ha) (key b t1 hb) ms mt ea
theorem Rel.mine_at (R : Rel K mg B F H r σ) {i : Nat} {s : Sl} (hs : r[i]? = some (some s)) (m : s.mine = true) : ∃ pa, σ[i]? = some (some (.ref pa)) ∧ ownAt K mg F H pa s.d ∧ F pa = none := by
  have q := R.slot i s hs
  cases s with
  | fz d => cases m
  | ow d =>
    obtain ⟨p', e', h1, _, _, h'⟩ := q
    exact ⟨p', e', h', h1⟩
  | bo d =>
    obtain ⟨p', e', h1, _, h'⟩ := q
    exact ⟨p', e', h', h1⟩
/-- the callee's promise from what the caller wants -/
theorem call_po {den0 : List D → Res D} {ds dds : List D} {vs dvs : List V} {Q : VK} (R : Rel K mg B F H r σ) (h : repL K mg F ds vs) (hd : ∀ F, repL K mg F dds dvs) (p : Po K mg W B F σ (rE K mg) Q (callR (den0 (ds ++ dds)) r)) : spD K mg den0 (vs ++ dvs) H Q (WE W σ) := by
  refine ⟨F, ds ++ dds, R.fh, repL_app h (hd F), ?_⟩
  cases q : den0 (ds ++ dds) with
  | ok d =>
    rw [q] at p
    exact fun v F' H' g x => p v F' H' (R.growN g) g.f x
  | er c fs r' =>
    rw [q] at p
    exact fun C od F' H' m g x => p C od σ F' H' m (R.growN g) g.f x
  | bad =>
    rw [q] at p
    exact p.elim
theorem callB_po {den0 : D → List D → Res (D × D)} {i : Nat} {s : Sl} {pa : Addr} {ds dds : List D} {vs dvs : List V} {Q : VK} (R : Rel K mg B F H r σ) (hs : r[i]? = some (some s)) (m : s.mine = true) (e : σ[i]? = some (some (.ref pa))) (h : repL K mg F ds vs) (hd : ∀ F, repL K mg F dds dvs)
    (p : Po K mg W B F σ (rE K mg) Q (callRB (den0 s.d (ds ++ dds)) i s r)) : spB K mg den0 (.ref pa :: (vs ++ dvs)) H Q (WE W σ) := by
  obtain ⟨_, hF⟩ := R.own_live hs m e
  have ho : ownAt K mg F H pa s.d := by
    have q := R.slot i s hs
    cases s with
    | fz d => cases m
    | ow d =>
      obtain ⟨p', e', _, _, _, h'⟩ := q
      rw [e] at e'
      cases e'
      exact h'
    | bo d =>
      obtain ⟨p', e', _, _, h'⟩ := q
      rw [e] at e'
      cases e'
      exact h'
  refine ⟨F, pa, s.d, ds ++ dds, vs ++ dvs, rfl, R.fh, hF, ho, repL_app h (hd F), ?_⟩
  cases q : den0 s.d (ds ++ dds) with
  | ok dd =>
    obtain ⟨d, d1⟩ := dd
    rw [q] at p
    exact fun v F' H' g hp' ho' x => p v F' H' (R.mut hs m e g.f g.fh (fun a o ne h => g.h a o (fun z => ne (Option.some.inj z).symm) h) g.fr ho') g.f x
  | er c fs r' =>
    rw [q] at p
    intro C od F' H' mm g hz x
    exact p C od σ F' H' mm (R.lose hs m e g hz) g.f x
  | bad =>
    rw [q] at p
    exact p.elim
end
end Dl

set_option Elab.async false
set_option linter.all false
set_option maxRecDepth 100000
set_option maxHeartbeats 4000000
namespace Dl
open PySem L2

/-! ### one reading or another -/
def eAlt {α : Type} (f g : En → Res α) : En → Res α := fun r => match f r with
  | .bad => g r
  | x => x
theorem PE.or {X : Cx} {e : Expr} {t u : TE} (h : PE X e t) (k : PE X e u) : PE X e (fun σ H Q => t σ H Q ∨ u σ H Q) := ⟨fun pins s σ H Q I z => z.elim (h.run pins s σ H Q I) (k.run pins s σ H Q I)⟩
theorem PI.or {X : Cx} {tg e : Expr} {t u : TI} (h : PI X tg e t) (k : PI X tg e u) : PI X tg e (fun σ H Q => t σ H Q ∨ u σ H Q) := ⟨fun pins s σ H Q I z => z.elim (h.run pins s σ H Q I) (k.run pins s σ H Q I)⟩
theorem PT.or {X : Cx} {e : Expr} {t u : TT} (h : PT X e t) (k : PT X e u) : PT X e (fun σ H Q => t σ H Q ∨ u σ H Q) := ⟨fun pins s σ H Q I z => z.elim (h.run pins s σ H Q I) (k.run pins s σ H Q I)⟩
theorem ent_or {α β : Type} {K : PySem.W.Frag} {mg : Str → Option Value} {W : WX} {R : RR α β} {t u : St → Hp → (β → Hp → Prop) → Prop} {f g : En → Res (α × En)} (h : Ent K mg W R t f) (k : Ent K mg W R u g) : Ent K mg W R (fun σ H Q => t σ H Q ∨ u σ H Q) (eAlt f g) := by
  intro B F H r σ Q R1 p
  unfold eAlt at p
  cases q : f r with
  | ok a =>
    simp only [q] at p
    exact .inl (h B F H r σ Q R1 (by rw [q]; exact p))
  | er c fs r' =>
    simp only [q] at p
    exact .inl (h B F H r σ Q R1 (by rw [q]; exact p))
  | bad =>
    simp only [q] at p
    exact .inr (k B F H r σ Q R1 p)
section
variable {X : Cx} {W : WX} {e : Expr}
theorem DE.alt {f g : En → Res (D × En)} (h : DE X W e f) (k : DE X W e g) : DE X W e (eAlt f g) := by
  obtain ⟨t, hp, he⟩ := h.ex
  obtain ⟨u, kp, ke⟩ := k.ex
  exact ⟨_, PE.or hp kp, ent_or he ke⟩
theorem DN.alt {f g : En → Res (D × En)} (h : DN X W e f) (k : DN X W e g) : DN X W e (eAlt f g) := by
  obtain ⟨t, hp, he⟩ := h.ex
  obtain ⟨u, kp, ke⟩ := k.ex
  exact ⟨_, PE.or hp kp, ent_or he ke⟩
theorem DT.alt {f g : En → Res (Bool × En)} (h : DT X W e f) (k : DT X W e g) : DT X W e (eAlt f g) := by
  obtain ⟨t, hp, he⟩ := h.ex
  obtain ⟨u, kp, ke⟩ := k.ex
  exact ⟨_, PT.or hp kp, ent_or he ke⟩
theorem DI.alt {tg : Expr} {f g : En → Res (List D × En)} (h : DI X W tg e f) (k : DI X W tg e g) : DI X W tg e (eAlt f g) := by
  obtain ⟨t, hp, he⟩ := h.ex
  obtain ⟨u, kp, ke⟩ := k.ex
  exact ⟨_, PI.or hp kp, ent_or he ke⟩
end

/-! ### calls of defs -/
section
variable {X : Cx} {CX : CXT} {k : Nat} {f C : Addr} {fd : FuncData} {ps : List Str} {sp : Sp} {dvs : List V} {ds : List Value} {E : St → XK} {x m : Str} {p pos apos : Pos} {e o : Expr} {es : List Expr} {ta : TE} {t : TA}
theorem pe_callSD0 (F : FnOk X.prog X.w X.K X.mg X.base CX k f fd ps sp) (hr : Room k X.A) (hg : Gl X x) (hm : X.mg x = some (.ref f)) (hk : PySem.W.keepIn X.K (.ref f) = true) (hb : Binds X.K fd ps ds) (hd : Vals dvs ds) (hx : ∀ σ, PassesAt CX X σ (E σ))
    (hdb : (x == ("__debug__" : Str)) = false := by decide) : PE X (.Call (.Name x p) [] [] pos) (tCallSD sp dvs E tNil) := by
  refine ⟨fun pins s σ H Q I h => ?_⟩
  refine wpAny_Call_Name_kw (ld_glob I hg hm ?_ hdb)
  exact PySem.W.callWith_K0 I.kIn hk (run_fnSD (us := []) F hr hb hd (hx σ) I .nil h)
def tMethSD (C : Addr) (m : Str) (sp : Sp) (dvs : List V) (E : St → XK) (ta : TE) (t : TA) : TE := fun σ H Q => ta σ H fun x H1 => ∃ a dx fs, x = .ref a ∧ H1 a = some (.ins C dx fs) ∧ fs.lookup m = none ∧ t σ H1 fun vs H2 => sp (x :: (vs ++ dvs)) H2 Q (E σ)
theorem pe_methSD {pl : Sem Bool} (he : PE X o ta) (c : Cls X.K C) (hm : Meth X.K C m f) (F : FnOk X.prog X.w X.K X.mg X.base CX k f fd ps sp) (hr : Room k X.A) (hb : Binds X.K fd ps ds) (hd : Vals dvs ds) (hx : ∀ σ, PassesAt CX X σ (E σ)) (ha : PA X (e :: es) t)
    (hst : starEach (e :: es) X.env = (false, eval e X.env) :: starEach es X.env := by rfl) (hpl : (backTo pos (starEach es X.env)).any (·.1) = false := by rfl)
    (ht : eval (.Call (.Attribute o m apos) (e :: es) [] pos) X.env = (do
      let ov ← eval o X.env
      standAt apos.atName
      let (f, first) ← holding [ov] (getMethod ov m pl)
      callWith pos f first (backTo pos (starEach (e :: es) X.env)) (backToKw pos (keywordEach [] X.env))) := by rfl) :
    PE X (.Call (.Attribute o m apos) (e :: es) [] pos) (tMethSD C m sp dvs E ta t) := by
  refine ⟨fun pins s σ H Q I h => ?_⟩
  refine PySem.W.methodCall_KW (pl := pl) (thn (he.run pins s σ H _ I h) fun u s1 ⟨x, H1, I1, rx, a, dx, fs, ex, ea, l, q⟩ => ?_) ht
  subst ex
  obtain rfl : u = Value.ref a := rx
  refine getmeth_ok I1 ea c hm l ?_
  refine PySem.W.callWith_K (first := [.ref a]) (h₀ := X.base) I.ok.mod.kin hm.kp (thn (ha.run pos pins s1 σ H1 _ I1 q) fun us s2 ⟨vs, H2, I2, r, q2⟩ => ⟨I2.kIn, ?_⟩) hst hpl
  exact run_fnSD (us := .ref a :: us) (vs := .ref a :: vs) F hr hb hd (hx σ) I2 (.cons rfl r) q2
theorem pe_methSD0 {pl : Sem Bool} (he : PE X o ta) (c : Cls X.K C) (hm : Meth X.K C m f) (F : FnOk X.prog X.w X.K X.mg X.base CX k f fd ps sp) (hr : Room k X.A) (hb : Binds X.K fd ps ds) (hd : Vals dvs ds) (hx : ∀ σ, PassesAt CX X σ (E σ))
    (ht : eval (.Call (.Attribute o m apos) [] [] pos) X.env = (do
      let ov ← eval o X.env
      standAt apos.atName
      let (f, first) ← holding [ov] (getMethod ov m pl)
      callWith pos f first (backTo pos (starEach [] X.env)) (backToKw pos (keywordEach [] X.env))) := by rfl) :
    PE X (.Call (.Attribute o m apos) [] [] pos) (tMethSD C m sp dvs E ta tNil) := by
  refine ⟨fun pins s σ H Q I h => ?_⟩
  refine PySem.W.methodCall_KW (pl := pl) (thn (he.run pins s σ H _ I h) fun u s1 ⟨x, H1, I1, rx, a, dx, fs, ex, ea, l, q⟩ => ?_) ht
  subst ex
  obtain rfl : u = Value.ref a := rx
  refine getmeth_ok I1 ea c hm l ?_
  exact PySem.W.callWith_K0 (first := [.ref a]) I1.kIn hm.kp (run_fnSD (us := [.ref a]) (vs := [.ref a]) F hr hb hd (hx σ) I1 (.cons rfl .nil) q)
def tMakeSD (C : Addr) (sp : Sp) (dvs : List V) (E : St → XK) (t : TA) : TE := fun σ H Q => t σ H fun vs H1 => ∀ x dx, H1 x = none → H1 dx = none → dx ≠ x →
  sp (.ref x :: (vs ++ dvs)) (upd (upd H1 dx (.own x)) x (.ins C dx [])) (fun v H2 => v = .non ∧ Q (.ref x) H2) (E σ)
theorem run_makeS {pins : List (Addr × Obj)} {σ : St} {H : Hp} {s : Shared} {Q : VK} {us : List Value} {vs : List V} (M : Mk X.K C f) (F : FnOk X.prog X.w X.K X.mg X.base CX k f fd ps sp) (hr : Room (k + 1) X.A) (hb : Binds X.K fd ps ds) (hd : Vals dvs ds)
    (hx : PassesAt CX X σ (E σ)) (I : Inv X pins σ H s) (r : Vals vs us)
    (h : ∀ x dx, H x = none → H dx = none → dx ≠ x → sp (.ref x :: (vs ++ dvs)) (upd (upd H dx (.own x)) x (.ins C dx [])) (fun v H2 => v = .non ∧ Q (.ref x) H2) (E σ)) :
    wpAny (model X.prog X.w) X.A (call (.ref C) us) (EP X pins σ Q) X.xe s := by
  have hq := h (s.heap.objs.size + 1) s.heap.objs.size (I.hok.fresh (Nat.le_succ _)) (I.hok.fresh (Nat.le_refl _)) (Nat.ne_of_lt (Nat.lt_succ_self _))
  have I2 := Inv.made (C := C) I
  have r2 : Vals (V.ref (s.heap.objs.size + 1) :: (vs ++ dvs)) (Value.ref (s.heap.objs.size + 1) :: (us ++ ds)) := .cons rfl (r.append hd)
  have hl : (Value.ref (s.heap.objs.size + 1) :: us ++ ds).length = ps.length := by
    have e := r2.length
    rw [F.len _ _ _ _ hq] at e
    exact e.symm
  refine wpAny_call (make_map (f := f) I.kIn M.makes M.init (beq_iff_eq.mp M.fn) (codeAny_mono (F.run _ X.stack _ _ ⟨Value.ref (s.heap.objs.size + 1) :: us, []⟩ (Value.ref (s.heap.objs.size + 1) :: (us ++ ds)) _ _ (E σ) (hr.make C us [])
    (I2.env0.make C us []) (hb _ (Value.ref (s.heap.objs.size + 1) :: us) I2.kIn hl) r2 hq) fun r s' hq' => ?_))
  cases r with
  | error e => exact hx pins _ _ e s' I2 hq'
  | ok fl =>
    cases fl with
    | ret u =>
      obtain ⟨v, H', I3, rv, ev, q3⟩ := I2.after hq'
      subst ev
      exact ⟨rv, ⟨V.ref (s.heap.objs.size + 1), H', I3, rfl, q3⟩⟩
    | next => exact False.elim hq'
    | brk => exact False.elim hq'
    | cont => exact False.elim hq'
theorem pe_makeSD (M : Mk X.K C f) (F : FnOk X.prog X.w X.K X.mg X.base CX k f fd ps sp) (hr : Room (k + 1) X.A) (hg : Gl X x) (hm : X.mg x = some (.ref C)) (hb : Binds X.K fd ps ds) (hd : Vals dvs ds) (hx : ∀ σ, PassesAt CX X σ (E σ))
    (ha : PA X (e :: es) t) (hdb : (x == ("__debug__" : Str)) = false := by decide) (he : starEach (e :: es) X.env = (false, eval e X.env) :: starEach es X.env := by rfl) (hpl : (backTo pos (starEach es X.env)).any (·.1) = false := by rfl) :
    PE X (.Call (.Name x p) (e :: es) [] pos) (tMakeSD C sp dvs E t) := by
  refine ⟨fun pins s σ H Q I h => ?_⟩
  refine wpAny_Call_Name_kw (ld_glob I hg hm ?_ hdb)
  refine PySem.W.callWith_K (h₀ := X.base) I.ok.mod.kin M.kp (thn (ha.run pos pins s σ H _ I h) fun us s1 ⟨vs, H1, I1, r, q⟩ => ⟨I1.kIn, ?_⟩) he hpl
  exact run_makeS M F hr hb hd (hx σ) I1 r q
end
section
variable {X : Cx} {W : WX} {k j : Nat} {f C : Addr} {x m c y : Str} {p pos apos q : Pos} {e o : Expr} {es : List Expr} {fa : En → Res (List D × En)} {fo : En → Res (BV × En)} {den : List D → Res D} {denB : D → List D → Res (D × D)}
/-- f(e, ..) -/
theorem de_call (F : CalA X.prog X.w X.K X.mg X.base k f den) (tk : Takes X W) (hr : Room j X.A) (hk : k ≤ j) (hg : Gl X x) (hm : X.mg x = some (.ref f)) (ha : DA X W (e :: es) fa) (hdb : (x == ("__debug__" : Str)) = false := by decide)
    (he : starEach (e :: es) X.env = (false, eval e X.env) :: starEach es X.env := by rfl) (hpl : (backTo pos (starEach es X.env)).any (·.1) = false := by rfl) : DE X W (.Call (.Name x p) (e :: es) [] pos) (eCall den fa) := by
  obtain ⟨fd, ps, ds, dvs, dds, den0, G, hb, hd, hdd, rfl⟩ := F.ex
  obtain ⟨t, pa, ea⟩ := ha.ex
  refine ⟨_, pe_callSD (E := WE W) G (hr.mono hk) hg hm F.kp hb hd (fun σ => passAt tk σ) pa hdb he hpl, fun B F H r σ Q R p => ea.to R p fun as r1 vs F1 H1 R1 s1 x1 p1 => ?_⟩
  exact call_po R1 x1 hdd p1
theorem de_call0 (F : CalA X.prog X.w X.K X.mg X.base k f den) (tk : Takes X W) (hr : Room j X.A) (hk : k ≤ j) (hg : Gl X x) (hm : X.mg x = some (.ref f)) (hdb : (x == ("__debug__" : Str)) = false := by decide) : DE X W (.Call (.Name x p) [] [] pos) (eCall den aNil) := by
  obtain ⟨fd, ps, ds, dvs, dds, den0, G, hb, hd, hdd, rfl⟩ := F.ex
  exact ⟨_, pe_callSD0 (E := WE W) G (hr.mono hk) hg hm F.kp hb hd (fun σ => passAt tk σ) hdb, fun B F H r σ Q R p => call_po (ds := []) (vs := []) R rfl hdd p⟩
/-- f(y, e, ..), y's object may be changed -/
theorem de_callB {i : Nat} (F : CalB X.prog X.w X.K X.mg X.base k f denB) (tk : Takes X W) (hr : Room j X.A) (hk : k ≤ j) (hg : Gl X x) (hm : X.mg x = some (.ref f)) (ha : DA X W es fa) (hN : X.N[i]? = some y := by rfl)
    (hv : Vis X.env.scope y := by first | exact Or.inl rfl | exact Or.inr (Or.inl rfl) | exact Or.inr (Or.inr rfl)) (hyd : (y == ("__debug__" : Str)) = false := by decide) (hcd : (y == ("__classdict__" : Str)) = false := by decide) (hdb : (x == ("__debug__" : Str)) = false := by decide)
    (he : starEach (.Name y q :: es) X.env = (false, eval (.Name y q) X.env) :: starEach es X.env := by rfl) (hpl : (backTo pos (starEach es X.env)).any (·.1) = false := by rfl) : DE X W (.Call (.Name x p) (.Name y q :: es) [] pos) (eCallB denB i fa) := by
  obtain ⟨fd, ps, ds, dvs, dds, den0, G, hb, hd, hdd, rfl⟩ := F.ex
  obtain ⟨t, pa, ea⟩ := ha.ex
  refine ⟨_, pe_callSD (E := WE W) G (hr.mono hk) hg hm F.kp hb hd (fun σ => passAt tk σ) (pa_cons (pe_var hN hv hyd hcd) pa he) hdb he hpl, fun B F H r σ Q R p => ?_⟩
  unfold eCallB at p
  by_cases hm0 : isMine r i = true
  · rw [if_pos hm0] at p
    obtain ⟨s0, hs0, m0⟩ := isMine_ok hm0
    obtain ⟨pa, e0, _⟩ := R.mine_at hs0 m0
    refine ⟨_, e0, ea.to R p fun as r1 vs F1 H1 R1 s1 x1 p1 => ?_⟩
    rcases atMine_cases r1 i (fun s => callRB (den0 s.d (as ++ dds)) i s r1) with z | ⟨s, hs, m, z⟩
    · simp only [z] at p1
      exact p1.elim
    · simp only [z] at p1
      exact callB_po R1 hs m e0 x1 hdd p1
  · rw [if_neg hm0] at p
    exact p.elim
/-! ### methods -/
def hasNo (fs : List (Str × D)) (m : Str) : Bool := fs.all fun q => decide (q.1 ≠ m)
def eMeth (c m : Str) (den : List D → Res D) (fo : En → Res (D × En)) (fa : En → Res (List D × En)) : En → Res (D × En) := fun r => (fo r).bind fun p => match p.1 with
  | .ins c' fs => if c' = c ∧ hasNo fs m = true then (fa p.2).bind fun q => callR (den (.ins c' fs :: q.1)) q.2 else .bad
  | _ => .bad
theorem repF_none {K : PySem.W.Frag} {mg : Str → Option Value} {F : Hp} {m : Str} : ∀ {fs : List (Str × D)} {ws : List (Str × V)}, repF K mg F fs ws → hasNo fs m = true → ws.lookup m = none
  | [], _, h, _ => by
    cases h
    rfl
  | (k, d) :: fs, _, h, n => by
    obtain ⟨w, ws, rfl, h1, h2⟩ := h
    have n' : (decide (k ≠ m) && hasNo fs m) = true := n
    rw [Bool.and_eq_true] at n'
    have ne : ¬ (m == k) = true := fun z => (of_decide_eq_true n'.1) (beq_iff_eq.mp z).symm
    rw [List.lookup_cons]
    cases z : (m == k) with
    | true => exact absurd z ne
    | false => exact repF_none h2 n'.2
theorem de_meth {pl : Sem Bool} {ff : En → Res (D × En)} (F : CalA X.prog X.w X.K X.mg X.base k f den) (tk : Takes X W) (hr : Room j X.A) (hk : k ≤ j) (hc : X.mg c = some (.ref C)) (cl : Cls X.K C) (hm : Meth X.K C m f) (ho : DE X W o ff) (ha : DA X W (e :: es) fa)
    (hst : starEach (e :: es) X.env = (false, eval e X.env) :: starEach es X.env := by rfl) (hpl : (backTo pos (starEach es X.env)).any (·.1) = false := by rfl)
    (ht : eval (.Call (.Attribute o m apos) (e :: es) [] pos) X.env = (do
      let ov ← eval o X.env
      standAt apos.atName
      let (f, first) ← holding [ov] (getMethod ov m pl)
      callWith pos f first (backTo pos (starEach (e :: es) X.env)) (backToKw pos (keywordEach [] X.env))) := by rfl) : DE X W (.Call (.Attribute o m apos) (e :: es) [] pos) (eMeth c m den ff fa) := by
  obtain ⟨fd, ps, ds, dvs, dds, den0, G, hb, hd, hdd, rfl⟩ := F.ex
  obtain ⟨to, po, eo⟩ := ho.ex
  obtain ⟨t, pa, ea⟩ := ha.ex
  refine ⟨_, pe_methSD (E := WE W) po cl hm G (hr.mono hk) hb hd (fun σ => passAt tk σ) pa hst hpl ht, fun B F H r σ Q R p => eo.to R p fun d r1 v F1 H1 R1 s1 x1 p1 => ?_⟩
  cases d with
  | ins c' fs =>
    simp only at p1
    by_cases hcc : c' = c ∧ hasNo fs m = true
    · rw [if_pos hcc] at p1
      obtain ⟨rfl, hn⟩ := hcc
      obtain ⟨a, C', dx, ws, rfl, hC, hF, hrf⟩ := id x1
      rw [hc] at hC
      cases hC
      refine ⟨a, dx, ws, rfl, R1.fh _ _ hF, repF_none hrf hn, ea.to R1 p1 fun as r2 vs F2 H2 R2 s2 x2 p2 => ?_⟩
      exact call_po (ds := .ins c' fs :: as) (vs := .ref a :: vs) R2 ⟨_, _, rfl, rep_mono s2 _ _ x1, x2⟩ hdd p2
    · rw [if_neg hcc] at p1
      exact p1.elim
  | _ => exact p1.elim
theorem de_meth0 {pl : Sem Bool} {ff : En → Res (D × En)} (F : CalA X.prog X.w X.K X.mg X.base k f den) (tk : Takes X W) (hr : Room j X.A) (hk : k ≤ j) (hc : X.mg c = some (.ref C)) (cl : Cls X.K C) (hm : Meth X.K C m f) (ho : DE X W o ff)
    (ht : eval (.Call (.Attribute o m apos) [] [] pos) X.env = (do
      let ov ← eval o X.env
      standAt apos.atName
      let (f, first) ← holding [ov] (getMethod ov m pl)
      callWith pos f first (backTo pos (starEach [] X.env)) (backToKw pos (keywordEach [] X.env))) := by rfl) : DE X W (.Call (.Attribute o m apos) [] [] pos) (eMeth c m den ff aNil) := by
  obtain ⟨fd, ps, ds, dvs, dds, den0, G, hb, hd, hdd, rfl⟩ := F.ex
  obtain ⟨to, po, eo⟩ := ho.ex
  refine ⟨_, pe_methSD0 (E := WE W) po cl hm G (hr.mono hk) hb hd (fun σ => passAt tk σ) ht, fun B F H r σ Q R p => eo.to R p fun d r1 v F1 H1 R1 s1 x1 p1 => ?_⟩
  cases d with
  | ins c' fs =>
    simp only at p1
    by_cases hcc : c' = c ∧ hasNo fs m = true
    · rw [if_pos hcc] at p1
      obtain ⟨rfl, hn⟩ := hcc
      obtain ⟨a, C', dx, ws, rfl, hC, hF, hrf⟩ := id x1
      rw [hc] at hC
      cases hC
      refine ⟨a, dx, ws, rfl, R1.fh _ _ hF, repF_none hrf hn, ?_⟩
      exact call_po (ds := [.ins c' fs]) (vs := [.ref a]) R1 ⟨_, _, rfl, x1, rfl⟩ hdd p1
    · rw [if_neg hcc] at p1
      exact p1.elim
  | _ => exact p1.elim
/-- y.m(e, ..) where y's object is one's own or borrowed: it may be changed -/
def eMethB (c m : Str) (den : D → List D → Res (D × D)) (i : Nat) (fa : En → Res (List D × En)) : En → Res (D × En) := fun r => atMine r i fun s0 => match s0.d with
  | .ins c' fs => if c' = c ∧ hasNo fs m = true then (fa r).bind fun q => atMine q.2 i fun s => callRB (den s.d q.1) i s q.2 else .bad
  | _ => .bad
theorem methB_ent {i : Nat} {t : TA} {den0 : D → List D → Res (D × D)} {dvs : List V} {dds : List D} (hc : X.mg c = some (.ref C)) (hdd : ∀ F, repL X.K X.mg F dds dvs) (ea : Ent X.K X.mg W (rA X.K X.mg) t fa) :
    Ent X.K X.mg W (rE X.K X.mg) (tMethSD C m (spB X.K X.mg den0) dvs (WE W) (tVar i) t) (eMethB c m (fun d as => den0 d (as ++ dds)) i fa) := by
  intro B F H r σ Q R p
  unfold eMethB at p
  rcases atMine_cases r i (fun s0 => match s0.d with
    | .ins c' fs => if c' = c ∧ hasNo fs m = true then (fa r).bind fun q => atMine q.2 i fun s => callRB (den0 s.d (q.1 ++ dds)) i s q.2 else .bad
    | _ => .bad) with z | ⟨s0, hs0, m0, z⟩
  · rw [z] at p
    exact p.elim
  · rw [z] at p
    obtain ⟨pa, e0, ho, _⟩ := R.mine_at hs0 m0
    cases hd : s0.d with
    | ins c' fs =>
      simp only [hd] at p
      rw [hd] at ho
      by_cases hcc : c' = c ∧ hasNo fs m = true
      · rw [if_pos hcc] at p
        obtain ⟨rfl, hn⟩ := hcc
        obtain ⟨C', dx, ws, hC, hH, hrf⟩ := ho
        rw [hc] at hC
        cases hC
        refine ⟨_, e0, pa, dx, ws, rfl, hH, repF_none hrf hn, ea.to R p fun as r1 vs F1 H1 R1 s1 x1 p1 => ?_⟩
        rcases atMine_cases r1 i (fun s => callRB (den0 s.d (as ++ dds)) i s r1) with z | ⟨s, hs, m, z⟩
        · simp only [z] at p1
          exact p1.elim
        · simp only [z] at p1
          exact callB_po R1 hs m e0 x1 hdd p1
      · rw [if_neg hcc] at p
        exact p.elim
    | _ =>
      simp only [hd] at p
      exact p.elim
theorem de_methB {pl : Sem Bool} {i : Nat} (F : CalB X.prog X.w X.K X.mg X.base k f denB) (tk : Takes X W) (hr : Room j X.A) (hk : k ≤ j) (hc : X.mg c = some (.ref C)) (cl : Cls X.K C) (hm : Meth X.K C m f) (ha : DA X W (e :: es) fa) (hN : X.N[i]? = some y := by rfl)
    (hv : Vis X.env.scope y := by first | exact Or.inl rfl | exact Or.inr (Or.inl rfl) | exact Or.inr (Or.inr rfl)) (hyd : (y == ("__debug__" : Str)) = false := by decide) (hcd : (y == ("__classdict__" : Str)) = false := by decide)
    (hst : starEach (e :: es) X.env = (false, eval e X.env) :: starEach es X.env := by rfl) (hpl : (backTo pos (starEach es X.env)).any (·.1) = false := by rfl)
    (ht : eval (.Call (.Attribute (.Name y q) m apos) (e :: es) [] pos) X.env = (do
      let ov ← eval (.Name y q) X.env
      standAt apos.atName
      let (f, first) ← holding [ov] (getMethod ov m pl)
      callWith pos f first (backTo pos (starEach (e :: es) X.env)) (backToKw pos (keywordEach [] X.env))) := by rfl) : DE X W (.Call (.Attribute (.Name y q) m apos) (e :: es) [] pos) (eMethB c m denB i fa) := by
  obtain ⟨fd, ps, ds, dvs, dds, den0, G, hb, hd, hdd, rfl⟩ := F.ex
  obtain ⟨t, pa, ea⟩ := ha.ex
  exact ⟨_, pe_methSD (E := WE W) (pe_var hN hv hyd hcd) cl hm G (hr.mono hk) hb hd (fun σ => passAt tk σ) pa hst hpl ht, methB_ent hc hdd ea⟩
theorem de_methB0 {pl : Sem Bool} {i : Nat} (F : CalB X.prog X.w X.K X.mg X.base k f denB) (tk : Takes X W) (hr : Room j X.A) (hk : k ≤ j) (hc : X.mg c = some (.ref C)) (cl : Cls X.K C) (hm : Meth X.K C m f) (hN : X.N[i]? = some y := by rfl)
    (hv : Vis X.env.scope y := by first | exact Or.inl rfl | exact Or.inr (Or.inl rfl) | exact Or.inr (Or.inr rfl)) (hyd : (y == ("__debug__" : Str)) = false := by decide) (hcd : (y == ("__classdict__" : Str)) = false := by decide)
    (ht : eval (.Call (.Attribute (.Name y q) m apos) [] [] pos) X.env = (do
      let ov ← eval (.Name y q) X.env
      standAt apos.atName
      let (f, first) ← holding [ov] (getMethod ov m pl)
      callWith pos f first (backTo pos (starEach [] X.env)) (backToKw pos (keywordEach [] X.env))) := by rfl) : DE X W (.Call (.Attribute (.Name y q) m apos) [] [] pos) (eMethB c m denB i aNil) := by
  obtain ⟨fd, ps, ds, dvs, dds, den0, G, hb, hd, hdd, rfl⟩ := F.ex
  exact ⟨_, pe_methSD0 (E := WE W) (pe_var hN hv hyd hcd) cl hm G (hr.mono hk) hb hd (fun σ => passAt tk σ) ht, methB_ent hc hdd fun B F H r σ Q R p => p [] F H R (Same.refl F) rfl⟩
/-! ### C(e, ..) -/
def eMake (c : Str) (den : D → List D → Res (D × D)) (fa : En → Res (List D × En)) : En → Res (D × En) := fun r => (fa r).bind fun p => match den (.ins c []) p.1 with
  | .ok (.non, d1) => .ok (d1, p.2)
  | .er c' fs _ => .er c' fs p.2
  | _ => .bad
theorem dn_make (F : CalB X.prog X.w X.K X.mg X.base k f denB) (tk : Takes X W) (hr : Room j X.A) (hk : k + 1 ≤ j) (hg : Gl X x) (hc : X.mg x = some (.ref C)) (M : Mk X.K C f) (ha : DA X W (e :: es) fa) (hdb : (x == ("__debug__" : Str)) = false := by decide)
    (he : starEach (e :: es) X.env = (false, eval e X.env) :: starEach es X.env := by rfl) (hpl : (backTo pos (starEach es X.env)).any (·.1) = false := by rfl) : DN X W (.Call (.Name x p) (e :: es) [] pos) (eMake x denB fa) := by
  obtain ⟨fd, ps, ds, dvs, dds, den0, G, hb, hd, hdd, rfl⟩ := F.ex
  obtain ⟨t, pa, ea⟩ := ha.ex
  refine ⟨_, pe_makeSD (E := WE W) M G (hr.mono hk) hg hc hb hd (fun σ => passAt tk σ) pa hdb he hpl, fun B F H r σ Q R p => ea.to R p fun as r1 vs F1 H1 R1 s1 x1 p1 => ?_⟩
  intro a dx na ndx nd
  have fa0 : F1 a = none := R1.fh.free na
  have sm : Same H1 (upd (upd H1 dx (.own a)) a (.ins C dx [])) := fun b o hb => by
    rw [upd_ne (ne_of_none hb na), upd_ne (ne_of_none hb ndx)]
    exact hb
  have ne2 : ∀ b, H1 b ≠ none → upd (upd H1 dx (.own a)) a (.ins C dx []) b ≠ none := fun b hb => by
    cases z : H1 b with
    | none => exact absurd z hb
    | some o => rw [sm b o z]; exact fun z => nomatch z
  refine ⟨F1, a, .ins x [], as ++ dds, vs ++ dvs, rfl, R1.fh.trans sm, fa0, ⟨C, dx, [], hc, upd_same, rfl⟩, repL_app x1 (hdd F1), ?_⟩
  simp only at p1
  cases z : den0 (.ins x []) (as ++ dds) with
  | ok dd =>
    obtain ⟨d, d1⟩ := dd
    rw [z] at p1
    intro v F' H' g hp' ho' hrep
    cases d with
    | non =>
      refine ⟨hrep, ?_⟩
      have R2 : Rel X.K X.mg B F' H' r1 σ := R1.grow (fun b o hb => g.h b o (fun w => by have w' : a = b := Option.some.inj w; rw [← w', na] at hb; cases hb) (sm b o hb)) g.f g.fh fun b h1 h2 => g.fr b h1 (ne2 b h2)
      exact p1 _ F' H' R2 g.f ⟨a, rfl, hp', (R1.new_ne na).1, (R1.new_ne na).2, R1.loose_new na, ho'⟩
    | _ => exact p1.elim
  | er c' fs r' =>
    rw [z] at p1
    intro C' od F' H' mm g hz hx
    have R2 : Rel X.K X.mg B F' H' r1 σ := R1.grow (fun b o hb => g.h b o (fun w => by have w' : a = b := Option.some.inj w; rw [← w', na] at hb; cases hb) (sm b o hb)) g.f g.fh fun b h1 h2 => g.fr b h1 (ne2 b h2)
    exact p1 C' od σ F' H' mm R2 g.f hx
  | bad =>
    rw [z] at p1
    exact p1.elim
/-! ### attributes -/
def fldD (cs : List Str) (n : Str) : D → Option D
  | .ins c fs => if c ∈ cs then fs.lookup n else none
  | _ => none
theorem repF_look {K : PySem.W.Frag} {mg : Str → Option Value} {F : Hp} {n : Str} {d : D} : ∀ {fs : List (Str × D)} {ws : List (Str × V)}, repF K mg F fs ws → fs.lookup n = some d → ∃ v, ws.lookup n = some v ∧ rep K mg F d v
  | [], _, _, h => by cases h
  | (k, d0) :: fs, _, h, e => by
    obtain ⟨w, ws, rfl, h1, h2⟩ := h
    rw [List.lookup_cons] at e ⊢
    cases z : (n == k) with
    | true =>
      rw [z] at e
      cases e
      exact ⟨w, rfl, h1⟩
    | false =>
      rw [z] at e
      exact repF_look h2 e
theorem de_fld {cs : List Str} {n : Str} (hcs : ∀ c ∈ cs, ∀ C, X.mg c = some (.ref C) → Cls X.K C ∧ NoAttr X.K C n) (ho : DB X W o fo) (hb : attributeBase o n X.env (eval o X.env) = eval o X.env := by rfl) : DE X W (.Attribute o n pos) (eUn (fldD cs n) fo) := by
  obtain ⟨t, hp, he⟩ := ho.ex
  refine ⟨_, pe_fld hp hb, ?_⟩
  refine un_ent (rr := fun x H1 Q => ∃ a C dx fs v, x = .ref a ∧ H1 a = some (.ins C dx fs) ∧ Cls X.K C ∧ NoAttr X.K C n ∧ fs.lookup n = some v ∧ Q v H1) he (unV_hr ?_)
  intro F H v d z Q sm h1 h3 k
  cases d with
  | ins c fs =>
    unfold fldD at h3
    by_cases hc : c ∈ cs
    · simp only [if_pos hc] at h3
      obtain ⟨a, C, dx, ws, rfl, hC, hH, hrf⟩ := h1
      obtain ⟨w, e1, e2⟩ := repF_look hrf h3
      obtain ⟨k1, k2⟩ := hcs c hc C hC
      exact ⟨a, C, dx, ws, w, rfl, hH, k1, k2, e1, k w e2⟩
    · simp only [if_neg hc] at h3
      cases h3
  | _ => cases h3
/-- a constant of the class -/
def conD (c n : Str) (d : D) : D → Option D
  | .ins c' fs => if c' = c ∧ hasNo fs n = true then some d else none
  | _ => none
theorem de_con {n : Str} {d : D} {v : V} {u : Value} (hc : X.mg c = some (.ref C)) (cl : Cls X.K C) (hk : Con X.K C n v u) (hd : ∀ F, rep X.K X.mg F d v) (ho : DB X W o fo) (hb : attributeBase o n X.env (eval o X.env) = eval o X.env := by rfl) : DE X W (.Attribute o n pos) (eUn (conD c n d) fo) := by
  obtain ⟨t, hp, he⟩ := ho.ex
  refine ⟨_, pe_con hp hb, ?_⟩
  refine un_ent (rr := fun x H1 Q => ∃ a C dx fs v u, x = .ref a ∧ H1 a = some (.ins C dx fs) ∧ Cls X.K C ∧ Con X.K C n v u ∧ fs.lookup n = none ∧ Q v H1) he (unV_hr ?_)
  intro F H v0 d0 z Q sm h1 h3 k
  cases d0 with
  | ins c' fs =>
    unfold conD at h3
    by_cases hcc : c' = c ∧ hasNo fs n = true
    · simp only [if_pos hcc] at h3
      cases h3
      obtain ⟨rfl, hn⟩ := hcc
      obtain ⟨a, C', dx, ws, rfl, hC, hH, hrf⟩ := h1
      rw [hc] at hC
      cases hC
      exact ⟨a, C, dx, ws, v, u, rfl, hH, cl, hk, repF_none hrf hn, k v (hd F)⟩
    · simp only [if_neg hcc] at h3
      cases h3
  | _ => cases h3
/-- y.n = e where y's object is one's own or borrowed -/
def putD (n : Str) (d : D) : List (Str × D) → List (Str × D)
  | [] => [(n, d)]
  | (k, d0) :: fs => if k = n then (n, d) :: fs else (k, d0) :: putD n d fs
end
end Dl

set_option Elab.async false
set_option linter.all false
set_option maxRecDepth 100000
set_option maxHeartbeats 4000000
namespace Dl
open PySem L2

/-! ### changing what a slot holds -/
section
variable {K : PySem.W.Frag} {mg : Str → Option Value} {B : Bg} {F H : Hp} {r : En} {σ : St}
theorem Rel.put {i : Nat} {s : Sl} {p : Addr} {d : D} {o : HO} (R : Rel K mg B F H r σ) (hs : r[i]? = some (some s)) (m : s.mine = true) (e : σ[i]? = some (some (.ref p))) (h : ownAt K mg F (upd H p o) p d) : Rel K mg B F (upd H p o) (r.set i (some (s.put d))) σ := by
  obtain ⟨_, hF⟩ := R.own_live hs m e
  exact R.mut hs m e (Same.refl F) (fun a u ha => by rw [upd_ne (ne_of_none ha hF)]; exact R.fh _ _ ha) (fun a u ne ha => by rw [upd_ne ne]; exact ha) (fun a h1 _ => h1) h
theorem repF_put {n : Str} {d : D} {v : V} (h : rep K mg F d v) : ∀ {fs : List (Str × D)} {ws : List (Str × V)}, repF K mg F fs ws → repF K mg F (putD n d fs) (putF n v ws)
  | [], _, h' => by
    cases h'
    exact ⟨v, [], rfl, h, rfl⟩
  | (k, d0) :: fs, _, h' => by
    obtain ⟨w, ws, rfl, h1, h2⟩ := h'
    unfold putD putF
    by_cases q : k = n
    · rw [if_pos q, if_pos q, q]
      exact ⟨v, ws, rfl, h, h2⟩
    · rw [if_neg q, if_neg q]
      exact ⟨w, _, rfl, h1, repF_put h h2⟩
theorem repF_len : ∀ {fs : List (Str × D)} {ws : List (Str × V)}, repF K mg F fs ws → ws.length = fs.length
  | [], _, h => by
    cases h
    rfl
  | (k, d) :: ds, _, h => by
    obtain ⟨w, ws, rfl, _, h⟩ := h
    simp [repF_len h]
theorem repL_set {d : D} {v : V} (h : rep K mg F d v) : ∀ {ds : List D} {vs : List V} (j : Nat), repL K mg F ds vs → repL K mg F (ds.set j d) (vs.set j v)
  | [], _, _, h' => by
    cases h'
    rfl
  | d0 :: ds, _, 0, h' => by
    obtain ⟨w, ws, rfl, h1, h2⟩ := h'
    exact ⟨v, ws, rfl, h, h2⟩
  | d0 :: ds, _, j + 1, h' => by
    obtain ⟨w, ws, rfl, h1, h2⟩ := h'
    exact ⟨w, _, rfl, h1, repL_set h j h2⟩
end
def atMineS (r : En) (i : Nat) (k : Sl → SR) : SR := match r[i]? with
  | some (some s) => if s.mine = true then k s else .bad
  | _ => .bad
theorem atMineS_cases (r : En) (i : Nat) (k : Sl → SR) : atMineS r i k = .bad ∨ ∃ s, r[i]? = some (some s) ∧ s.mine = true ∧ atMineS r i k = k s := by
  unfold atMineS
  cases e : r[i]? with
  | none => exact .inl rfl
  | some o =>
    cases o with
    | none => exact .inl rfl
    | some s =>
      by_cases m : s.mine = true
      · exact .inr ⟨s, rfl, m, by simp only [if_pos m]⟩
      · exact .inl (by simp only [if_neg m])
/-- y.n = e -/
def sFldSet (cs : List Str) (n : Str) (i : Nat) (f : En → Res (D × En)) : En → SR := fun r => sBind (f r) fun p => atMineS p.2 i fun s => match s.d with
  | .ins c fs => if c ∈ cs ∧ fs.length < 1000 then .nx (p.2.set i (some (s.put (.ins c (putD n p.1 fs))))) else .bad
  | _ => .bad
/-- y.append(e) -/
def sAppend (i : Nat) (f : En → Res (D × En)) : En → SR := fun r => atMineS r i fun s0 => match s0.d with
  | .lst _ => sBind (f r) fun p => atMineS p.2 i fun s => match s.d with
    | .lst ds => if ds.length < 100000 then .nx (p.2.set i (some (s.put (.lst (ds ++ [p.1]))))) else .bad
    | _ => .bad
  | _ => .bad
def extD : D → D → Option D
  | .lst ds, .lst es => if ds.length + es.length < 100000 then some (.lst (ds ++ es)) else none
  | _, _ => none
def sExtend (i : Nat) (f : En → Res (D × En)) : En → SR := fun r => atMineS r i fun s0 => match s0.d with
  | .lst _ => sBind (f r) fun p => atMineS p.2 i fun s => match extD s.d p.1 with
    | some z => .nx (p.2.set i (some (s.put z)))
    | none => .bad
  | _ => .bad
section
variable {X : Cx} {W : WX} {e : Expr} {y : Str} {i : Nat} {pos pos' apos q : Pos} {f : En → Res (D × En)}
theorem ds_fldset {cs : List Str} {n : Str} (hcs : ∀ c ∈ cs, ∀ C, X.mg c = some (.ref C) → Cls X.K C ∧ NoAttr X.K C n) (hf : DE X W e f) (hN : X.N[i]? = some y := by rfl) (hv : Vis X.env.scope y := by first | exact Or.inl rfl | exact Or.inr (Or.inl rfl) | exact Or.inr (Or.inr rfl))
    (hyd : (y == ("__debug__" : Str)) = false := by decide) (hcd : (y == ("__classdict__" : Str)) = false := by decide) (hs : swapsWith e (some (.Attribute (.Name y q) n pos')) pos.line X.env = pure false := by rfl) :
    DS X W (.Assign [.Attribute (.Name y q) n pos'] e pos) (sFldSet cs n i f) := by
  obtain ⟨t, hp, he⟩ := hf.ex
  refine ⟨_, ps_fld (pe_var hN hv hyd hcd) hp hs, fun B F H r σ Z R p => he.toS R p fun d r1 v F1 H1 R1 s1 x1 p1 => ?_⟩
  rcases atMineS_cases r1 i (fun s => match s.d with
    | .ins c fs => if c ∈ cs ∧ fs.length < 1000 then .nx (r1.set i (some (s.put (.ins c (putD n d fs))))) else .bad
    | _ => .bad) with z | ⟨s, hs, m, z⟩
  · simp only [z] at p1
    exact p1.elim
  · simp only [z] at p1
    obtain ⟨pa, e0, ho, _⟩ := R1.mine_at hs m
    cases hd : s.d with
    | ins c fs =>
      simp only [hd] at p1
      rw [hd] at ho
      by_cases hc : c ∈ cs ∧ fs.length < 1000
      · simp only [if_pos hc] at p1
        obtain ⟨C, dx, ws, hC, hH, hrf⟩ := ho
        obtain ⟨k1, k2⟩ := hcs c hc.1 C hC
        refine ⟨_, e0, pa, C, dx, ws, rfl, hH, k1, k2, by rw [repF_len hrf]; exact hc.2, ?_⟩
        exact p1 σ F1 _ (R1.put hs m e0 ⟨C, dx, _, hC, upd_same, repF_put x1 hrf⟩) (Same.refl F1)
      · simp only [if_neg hc] at p1
        exact p1.elim
    | _ =>
      simp only [hd] at p1
      exact p1.elim
theorem ds_append (hf : DE X W e f) (hN : X.N[i]? = some y := by rfl) (hv : Vis X.env.scope y := by first | exact Or.inl rfl | exact Or.inr (Or.inl rfl) | exact Or.inr (Or.inr rfl))
    (hyd : (y == ("__debug__" : Str)) = false := by decide) (hcd : (y == ("__classdict__" : Str)) = false := by decide)
    (hbase : attributeBase (.Name y q) "append" X.env (eval (.Name y q) X.env) = eval (.Name y q) X.env := by rfl)
    (hfew : ((backTo pos' (starEach [e] X.env)).all (fun x => !x.1) && (backToKw pos' (keywordEach [] X.env)).all (fun x => x.1.isSome)
      && decide (([e] : List Expr).length + ([] : List Keyword).length + (if ([] : List Keyword).isEmpty then 0 else 1) < 30)) = true := by rfl)
    (hline : (apos.endLine == pos'.line) = true := by rfl) (hst : starEach [e] X.env = (false, eval e X.env) :: starEach [] X.env := by rfl)
    (hs : swapsWith (.Call (.Attribute (.Name y q) "append" apos) [e] [] pos') none pos.line X.env = pure false := by rfl) :
    DS X W (.Expr (.Call (.Attribute (.Name y q) "append" apos) [e] [] pos') pos) (sAppend i f) := by
  obtain ⟨t, hp, he⟩ := hf.ex
  refine ⟨_, ps_expr (pe_bm PySem.F.plainAttrs_list PySem.F.slot_list_append PySem.F.type_list_append mt_append (pe_var hN hv hyd hcd) (pa_cons hp pa_nil hst) hbase hfew hline hst rfl) hs, fun B F H r σ Z R p => ?_⟩
  unfold sAppend at p
  rcases atMineS_cases r i (fun s0 => match s0.d with
    | .lst _ => sBind (f r) fun p => atMineS p.2 i fun s => match s.d with
      | .lst ds => if ds.length < 100000 then .nx (p.2.set i (some (s.put (.lst (ds ++ [p.1]))))) else .bad
      | _ => .bad
    | _ => .bad) with z | ⟨s0, hs0, m0, z⟩
  · rw [z] at p
    exact p.elim
  · rw [z] at p
    obtain ⟨pa, e0, ho, _⟩ := R.mine_at hs0 m0
    cases hd0 : s0.d with
    | lst ds0 =>
      simp only [hd0] at p
      rw [hd0] at ho
      obtain ⟨xs0, hH0, _⟩ := ho
      refine ⟨_, e0, .inl ⟨rfl, _, SqL.of hH0⟩, he.toS R p fun d r1 v F1 H1 R1 s1 x1 p1 => ?_⟩
      rcases atMineS_cases r1 i (fun s => match s.d with
        | .lst ds => if ds.length < 100000 then .nx (r1.set i (some (s.put (.lst (ds ++ [d]))))) else .bad
        | _ => .bad) with z | ⟨s, hs, m, z⟩
      · simp only [z] at p1
        exact p1.elim
      · simp only [z] at p1
        obtain ⟨pa', e1, ho, _⟩ := R1.mine_at hs m
        rw [e0] at e1
        cases e1
        cases hd : s.d with
        | lst ds =>
          simp only [hd] at p1
          rw [hd] at ho
          by_cases hc : ds.length < 100000
          · simp only [if_pos hc] at p1
            obtain ⟨xs, hH, hr⟩ := ho
            refine ⟨pa, xs, v, rfl, rfl, hH, sl100k (by rw [repL_len hr]; exact hc), ?_⟩
            exact p1 σ F1 _ (R1.put hs m e0 ⟨_, upd_same, repL_snoc hr x1⟩) (Same.refl F1)
          · simp only [if_neg hc] at p1
            exact p1.elim
        | _ =>
          simp only [hd] at p1
          exact p1.elim
    | _ =>
      simp only [hd0] at p
      exact p.elim
theorem ds_extend (hf : DE X W e f) (hN : X.N[i]? = some y := by rfl) (hv : Vis X.env.scope y := by first | exact Or.inl rfl | exact Or.inr (Or.inl rfl) | exact Or.inr (Or.inr rfl))
    (hyd : (y == ("__debug__" : Str)) = false := by decide) (hcd : (y == ("__classdict__" : Str)) = false := by decide)
    (hbase : attributeBase (.Name y q) "extend" X.env (eval (.Name y q) X.env) = eval (.Name y q) X.env := by rfl)
    (hfew : ((backTo pos' (starEach [e] X.env)).all (fun x => !x.1) && (backToKw pos' (keywordEach [] X.env)).all (fun x => x.1.isSome)
      && decide (([e] : List Expr).length + ([] : List Keyword).length + (if ([] : List Keyword).isEmpty then 0 else 1) < 30)) = true := by rfl)
    (hline : (apos.endLine == pos'.line) = true := by rfl) (hst : starEach [e] X.env = (false, eval e X.env) :: starEach [] X.env := by rfl)
    (hs : swapsWith (.Call (.Attribute (.Name y q) "extend" apos) [e] [] pos') none pos.line X.env = pure false := by rfl) :
    DS X W (.Expr (.Call (.Attribute (.Name y q) "extend" apos) [e] [] pos') pos) (sExtend i f) := by
  obtain ⟨t, hp, he⟩ := hf.ex
  refine ⟨_, ps_expr (pe_bm PySem.F.plainAttrs_list PySem.F.slot_list_extend PySem.F.type_list_extend mt_extend (pe_var hN hv hyd hcd) (pa_cons hp pa_nil hst) hbase hfew hline hst rfl) hs, fun B F H r σ Z R p => ?_⟩
  unfold sExtend at p
  rcases atMineS_cases r i (fun s0 => match s0.d with
    | .lst _ => sBind (f r) fun p => atMineS p.2 i fun s => match extD s.d p.1 with
      | some z => .nx (p.2.set i (some (s.put z)))
      | none => .bad
    | _ => .bad) with z | ⟨s0, hs0, m0, z⟩
  · rw [z] at p
    exact p.elim
  · rw [z] at p
    obtain ⟨pa, e0, ho, _⟩ := R.mine_at hs0 m0
    cases hd0 : s0.d with
    | lst ds0 =>
      simp only [hd0] at p
      rw [hd0] at ho
      obtain ⟨xs0, hH0, _⟩ := ho
      refine ⟨_, e0, .inl ⟨rfl, _, SqL.of hH0⟩, he.toS R p fun d r1 v F1 H1 R1 s1 x1 p1 => ?_⟩
      rcases atMineS_cases r1 i (fun s => match extD s.d d with
        | some z => .nx (r1.set i (some (s.put z)))
        | none => .bad) with z | ⟨s, hs, m, z⟩
      · simp only [z] at p1
        exact p1.elim
      · simp only [z] at p1
        obtain ⟨pa', e1, ho, hFp⟩ := R1.mine_at hs m
        rw [e0] at e1
        cases e1
        cases hd : s.d with
        | lst ds =>
          cases d with
          | lst es =>
            simp only [hd, extD] at p1
            rw [hd] at ho
            by_cases hc : ds.length + es.length < 100000
            · simp only [if_pos hc] at p1
              obtain ⟨xs, hH, hr⟩ := ho
              obtain ⟨b, zs, rfl, hFb, hrb⟩ := x1
              refine ⟨pa, b, xs, zs, rfl, rfl, hH, R1.fh _ _ hFb, Nat.le_of_lt (sl100k (by rw [repL_len hr, repL_len hrb]; exact hc)), ?_⟩
              exact p1 σ F1 _ (R1.put hs m e0 ⟨_, upd_same, repL_app hr hrb⟩) (Same.refl F1)
            · simp only [if_neg hc] at p1
              exact p1.elim
          | _ =>
            simp only [hd, extD] at p1
            exact p1.elim
        | _ =>
          simp only [hd, extD] at p1
          exact p1.elim
    | _ =>
      simp only [hd0] at p
      exact p.elim
/-! ### y[k] = e by a target (a list) -/
def ixD (n : Nat) (d : D) : Option Nat := match d with
  | .int k => ixN n k
  | _ => none
def gSetIx (i : Nat) (fi : En → Res (D × En)) : D → En → Res En := fun d r => if isMine r i = true then (fi r).bind fun p => atMine p.2 i fun s => match s.d with
  | .lst ds => (match ixD ds.length p.1 with
    | some j => .ok (p.2.set i (some (s.put (.lst (ds.set j d)))))
    | none => .bad)
  | _ => .bad else .bad
theorem dg_setix {o' : Expr} {vs : List Nat} (hf : DE X W o' f) (hN : X.N[i]? = some y := by rfl) (hv : Vis X.env.scope y := by first | exact Or.inl rfl | exact Or.inr (Or.inl rfl) | exact Or.inr (Or.inr rfl))
    (hyd : (y == ("__debug__" : Str)) = false := by decide) (hcd : (y == ("__classdict__" : Str)) = false := by decide)
    (ha : ∀ v, assign (.Subscript (.Name y q) o' pos) X.env v = (do
      let ov ← holding [v] (eval (.Name y q) X.env)
      let iv ← holding [v, ov] (eval o' X.env)
      standAt pos
      holding [v, ov, iv] (setItem ov iv v)
      release [v, ov, iv] []) := by intro _; rfl) : DG X W (.Subscript (.Name y q) o' pos) vs (gSetIx i f) := by
  obtain ⟨t, hp, he⟩ := hf.ex
  refine ⟨_, pg_sub (pe_var hN hv hyd hcd) hp set_list ha, fun B F H r σ d v Q R rp p => ?_⟩
  unfold gSetIx at p
  by_cases hm0 : isMine r i = true
  · rw [if_pos hm0] at p
    obtain ⟨s0, hs0, m0⟩ := isMine_ok hm0
    obtain ⟨pa, e0, _⟩ := R.mine_at hs0 m0
    refine ⟨_, e0, he B F H r σ _ R ?_⟩
    cases z : f r with
    | ok a =>
      obtain ⟨k, r1⟩ := a
      simp only [z, bind_ok] at p
      intro u F1 H1 R1 s1 x1
      rcases atMine_cases r1 i (fun s => match s.d with
        | .lst ds => (match ixD ds.length k with
          | some j => .ok (r1.set i (some (s.put (.lst (ds.set j d)))))
          | none => .bad)
        | _ => (.bad : Res En)) with z | ⟨s, hs, m, z⟩
      · rw [z] at p
        exact p.elim
      · rw [z] at p
        obtain ⟨pa', e1, ho, hFp⟩ := R1.mine_at hs m
        rw [e0] at e1
        cases e1
        cases hd : s.d with
        | lst ds =>
          simp only [hd] at p
          rw [hd] at ho
          obtain ⟨xs, hH, hr⟩ := ho
          cases k with
          | int k =>
            cases hj : ixN ds.length k with
            | some j =>
              simp only [ixD, hj] at p
              refine ⟨pa, xs, k, j, rfl, x1, hH, by rw [repL_len hr]; exact hj, ?_⟩
              exact p σ F1 _ (R1.put hs m e0 ⟨_, upd_same, repL_set (rep_mono s1 _ _ rp) j hr⟩) s1 Off.refl
            | none =>
              simp only [ixD, hj] at p
              exact p.elim
          | _ =>
            simp only [ixD] at p
            exact p.elim
        | _ =>
          simp only [hd] at p
          exact p.elim
    | er c fs r' =>
      simp only [z, bind_er] at p
      exact p
    | bad =>
      simp only [z, bind_bad] at p
      exact p.elim
  · rw [if_neg hm0] at p
    exact p.elim
end
end Dl

set_option Elab.async false
set_option linter.all false
set_option maxRecDepth 100000
set_option maxHeartbeats 4000000
namespace Dl
open PySem L2

/-! ### plain data -/
mutual
def toPy : D → PyData
  | .bl b => .bool b
  | .int i => .int i
  | .str x => .str x
  | .lst ds => .list (toPyL ds)
  | .tup ds => .tuple (toPyL ds)
  | _ => .none
def toPyL : List D → List PyData
  | [] => []
  | d :: ds => toPy d :: toPyL ds
end
mutual
def isData : D → Bool
  | .non => true
  | .bl _ => true
  | .int _ => true
  | .str _ => true
  | .lst ds => isDataL ds
  | .tup ds => isDataL ds
  | _ => false
def isDataL : List D → Bool
  | [] => true
  | d :: ds => isData d && isDataL ds
end
def okPy (d : D) : Bool := isData d && SeqAt.shaped (toPy d)
theorem toPyL_map : ∀ ds : List D, toPyL ds = ds.map toPy
  | [] => rfl
  | d :: ds => by rw [toPyL, toPyL_map ds, List.map_cons]
section
variable {K : PySem.W.Frag} {mg : Str → Option Value} {F H : Hp}
mutual
theorem rep_dp (e : Same F H) : ∀ (d : D) (v : V), isData d = true → rep K mg F d v → Dp K H v (toPy d)
  | .non, _, _, h => by
    cases h
    exact .non
  | .bl b, _, _, h => by
    cases h
    exact .bl b
  | .int b, _, _, h => by
    cases h
    exact .int b
  | .str b, _, _, h => by
    cases h
    exact .str b
  | .lst ds, _, i, ⟨a, xs, e1, hF, r⟩ => by
    subst e1
    rw [toPy]
    exact .lst (SqL.of (e _ _ hF)) (rep_dpL e ds xs i r)
  | .tup ds, _, i, ⟨a, xs, e1, hF, r⟩ => by
    subst e1
    rw [toPy]
    exact .tup (sqT_mono e hF) (rep_dpL e ds xs i r)
theorem rep_dpL (e : Same F H) : ∀ (ds : List D) (vs : List V), isDataL ds = true → repL K mg F ds vs → DpAll K H vs (toPyL ds)
  | [], _, _, h => by
    cases h
    exact .nil
  | d :: ds, _, i, ⟨w, ws, e1, h1, h2⟩ => by
    subst e1
    rw [isDataL, Bool.and_eq_true] at i
    rw [toPyL]
    exact .cons (rep_dp e d w i.1 h1) (rep_dpL e ds ws i.2 h2)
end
theorem vw_dp (e : Same F H) : ∀ (d : D) (v : V), isData d = true → vw K mg F H d v → Dp K H v (toPy d)
  | .non, _, _, h => by
    cases h
    exact .non
  | .bl b, _, _, h => by
    cases h
    exact .bl b
  | .int b, _, _, h => by
    cases h
    exact .int b
  | .str b, _, _, h => by
    cases h
    exact .str b
  | .lst ds, _, i, ⟨a, xs, e1, hF, r⟩ => by
    subst e1
    rw [toPy]
    exact .lst (SqL.of hF) (rep_dpL e ds xs i r)
  | .tup ds, _, i, ⟨a, xs, e1, hF, r⟩ => by
    subst e1
    rw [toPy]
    exact .tup hF (rep_dpL e ds xs i r)
end

/-! ### operations on data -/
def addI : D → D → Option D
  | .int a, .int b => some (.int (a + b))
  | _, _ => none
def subI : D → D → Option D
  | .int a, .int b => some (.int (a - b))
  | _, _ => none
def mulI : D → D → Option D
  | .int a, .int b => if (-(2 ^ 64) < a ∧ a < 2 ^ 64) ∨ (-(2 ^ 64) < b ∧ b < 2 ^ 64) then some (.int (a * b)) else none
  | _, _ => none
def modI : D → D → Option D
  | .int a, .int b => if 0 < b then some (.int (a % b)) else none
  | _, _ => none
def fdivI : D → D → Option D
  | .int a, .int b => if 0 < b ∧ b < 1073741824 then some (.int (a / b)) else none
  | _, _ => none
def powI : D → D → Option D
  | .int a, .int b => if 0 ≤ b ∧ b ≤ 1000000 ∧ a.natAbs < 2 ^ 64 then some (.int (a ^ b.toNat)) else none
  | _, _ => none
def negI : D → Option D
  | .int a => some (.int (-a))
  | _ => none
def ltI : D → D → Option D
  | .int a, .int b => some (.bl (decide (a < b)))
  | _, _ => none
def leI : D → D → Option D
  | .int a, .int b => some (.bl (decide (a ≤ b)))
  | _, _ => none
def gtI : D → D → Option D
  | .int a, .int b => some (.bl (decide (b < a)))
  | _, _ => none
def geI : D → D → Option D
  | .int a, .int b => some (.bl (decide (b ≤ a)))
  | _, _ => none
/-- == of data (texts apart: any texts) -/
def eqD : D → D → Option D
  | .str a, .str b => some (.bl (decide (a = b)))
  | x, y => if okPy x = true ∧ okPy y = true then some (.bl (PyData.eqv (toPy x) (toPy y))) else none
def neD : D → D → Option D
  | .str a, .str b => some (.bl (!decide (a = b)))
  | x, y => if okPy x = true ∧ okPy y = true then some (.bl (!PyData.eqv (toPy x) (toPy y))) else none
def isN : D → D → Option D
  | .non, .non => some (.bl true)
  | .bl _, .non => some (.bl false)
  | .int _, .non => some (.bl false)
  | .str _, .non => some (.bl false)
  | .lst _, .non => some (.bl false)
  | .tup _, .non => some (.bl false)
  | .dk _, .non => some (.bl false)
  | .dt _, .non => some (.bl false)
  | .ins _ _, .non => some (.bl false)
  | _, _ => none
def notN (x y : D) : Option D := match isN x y with
  | some (.bl b) => some (.bl (!b))
  | _ => none
def catL : D → D → Option D
  | .lst a, .lst b => if a.length + b.length ≤ 100000 then some (.lst (a ++ b)) else none
  | _, _ => none
def addS : D → D → Option D
  | .str a, .str b => if a.length + b.length ≤ 100000 then some (.str (a ++ b)) else none
  | _, _ => none
def ixG : D → D → Option D
  | .lst ds, .int i => atI ds i
  | .tup ds, .int i => atI ds i
  | .str z, .int i => if z.length ≤ 100000 then (atI z.cps.toList i).map fun c => .str ⟨#[c]⟩ else none
  | .scr ns, .int i => (atI ns i).map .int
  | _, _ => none
def inLst : D → D → Option D
  | x, .lst ds => if okPy x = true ∧ okPy (.lst ds) = true then some (.bl ((toPyL ds).any fun z => PyData.eqv z (toPy x))) else none
  | _, _ => none
def ninLst : D → D → Option D
  | x, .lst ds => if okPy x = true ∧ okPy (.lst ds) = true then some (.bl (!(toPyL ds).any fun z => PyData.eqv z (toPy x))) else none
  | _, _ => none
def inStr : D → D → Option D
  | .str i, .str j => some (.bl (!(Builtin.Str.occurrences j i 0 j.length 1).isEmpty))
  | _, _ => none
def lenD : D → Option D
  | .lst ds => some (.int ds.length)
  | .tup ds => some (.int ds.length)
  | .str z => if z.length ≤ 100000 then some (.int z.length) else none
  | .scr ns => some (.int ns.length)
  | _ => none
def lenK : D → Option D
  | .dk kvs => some (.int kvs.length)
  | _ => none
section
variable {X : Cx}
theorem opv_ii {C : Int → Int → Prop} [∀ a b, Decidable (C a b)] {g : Int → Int → D} {v : Int → Int → V} (hr : ∀ F a b, rep X.K X.mg F (g a b) (v a b)) {f : D → D → Option D} (hf : ∀ x y z, f x y = some z → ∃ a b, x = .int a ∧ y = .int b ∧ C a b ∧ z = g a b) : OpV X (L2.rI C v) f := by
  intro F H x y d e z Q s h1 h2 h3 k
  obtain ⟨a, b, rfl, rfl, hc, rfl⟩ := hf d e z h3
  exact ⟨a, b, h1, h2, hc, k _ (hr F a b)⟩
theorem opv_i0 {g : Int → Int → D} {v : Int → Int → V} (hr : ∀ F a b, rep X.K X.mg F (g a b) (v a b)) {f : D → D → Option D} (hf : ∀ x y z, f x y = some z → ∃ a b, x = .int a ∧ y = .int b ∧ z = g a b) : OpV X (rI0 v) f := by
  intro F H x y d e z Q s h1 h2 h3 k
  obtain ⟨a, b, rfl, rfl, rfl⟩ := hf d e z h3
  exact ⟨a, b, h1, h2, k _ (hr F a b)⟩
theorem ov_add : OpV X (rI0 fun i j => .int (i + j)) addI := opv_i0 (g := fun a b => .int (a + b)) (fun _ _ _ => rfl) fun x y z h => by
  unfold addI at h
  split at h
  · cases h
    exact ⟨_, _, rfl, rfl, rfl⟩
  · cases h
theorem ov_sub : OpV X (rI0 fun i j => .int (i - j)) subI := opv_i0 (g := fun a b => .int (a - b)) (fun _ _ _ => rfl) fun x y z h => by
  unfold subI at h
  split at h
  · cases h
    exact ⟨_, _, rfl, rfl, rfl⟩
  · cases h
theorem ov_mul : OpV X (L2.rI CMul fun i j => .int (i * j)) mulI := by
  intro F H x y d e z Q s h1 h2 h3 k
  unfold mulI at h3
  split at h3
  · rename_i a b
    split at h3
    · rename_i hc
      cases h3
      exact ⟨a, b, h1, h2, hc, k _ rfl⟩
    · cases h3
  · cases h3
theorem ov_mod : OpV X (L2.rI (fun _ j => 0 < j) fun i j => .int (i % j)) modI := by
  intro F H x y d e z Q s h1 h2 h3 k
  unfold modI at h3
  split at h3
  · rename_i a b
    split at h3
    · rename_i hc
      cases h3
      exact ⟨a, b, h1, h2, hc, k _ rfl⟩
    · cases h3
  · cases h3
theorem ov_fdiv : OpV X (L2.rI CDiv fun i j => .int (i / j)) fdivI := by
  intro F H x y d e z Q s h1 h2 h3 k
  unfold fdivI at h3
  split at h3
  · rename_i a b
    split at h3
    · rename_i hc
      cases h3
      exact ⟨a, b, h1, h2, hc, k _ rfl⟩
    · cases h3
  · cases h3
theorem ov_pow : OpV X (L2.rI CPow fun i j => .int (i ^ j.toNat)) powI := by
  intro F H x y d e z Q s h1 h2 h3 k
  unfold powI at h3
  split at h3
  · rename_i a b
    split at h3
    · rename_i hc
      cases h3
      exact ⟨a, b, h1, h2, hc, k _ rfl⟩
    · cases h3
  · cases h3
theorem uv_neg : UnV X (rU fun i => .int (-i)) negI := by
  intro F H v d z Q s h1 h3 k
  unfold negI at h3
  split at h3
  · cases h3
    exact ⟨_, h1, k _ rfl⟩
  · cases h3
theorem ov_lt : OpV X (rI0 fun i j => .bl (decide (i < j))) ltI := opv_i0 (g := fun a b => .bl (decide (a < b))) (fun _ _ _ => rfl) fun x y z h => by
  unfold ltI at h
  split at h
  · cases h
    exact ⟨_, _, rfl, rfl, rfl⟩
  · cases h
theorem ov_le : OpV X (rI0 fun i j => .bl (decide (i ≤ j))) leI := opv_i0 (g := fun a b => .bl (decide (a ≤ b))) (fun _ _ _ => rfl) fun x y z h => by
  unfold leI at h
  split at h
  · cases h
    exact ⟨_, _, rfl, rfl, rfl⟩
  · cases h
theorem ov_gt : OpV X (rI0 fun i j => .bl (decide (j < i))) gtI := opv_i0 (g := fun a b => .bl (decide (b < a))) (fun _ _ _ => rfl) fun x y z h => by
  unfold gtI at h
  split at h
  · cases h
    exact ⟨_, _, rfl, rfl, rfl⟩
  · cases h
theorem ov_ge : OpV X (rI0 fun i j => .bl (decide (j ≤ i))) geI := opv_i0 (g := fun a b => .bl (decide (b ≤ a))) (fun _ _ _ => rfl) fun x y z h => by
  unfold geI at h
  split at h
  · cases h
    exact ⟨_, _, rfl, rfl, rfl⟩
  · cases h
theorem OpV.or {rr rr' : R2} {f g : D → D → Option D} (h : OpV X rr f) (h' : OpV X rr' g) : OpV X (fun x y H Q => rr x y H Q ∨ rr' x y H Q) (fun x y => (f x y).or (g x y)) := by
  intro F H x y d e z Q s h1 h2 h3 k
  cases q : f d e with
  | some z' =>
    simp only [q, Option.some_or] at h3
    cases h3
    exact .inl (h F H x y d e z Q s h1 h2 q k)
  | none =>
    simp only [q, Option.none_or] at h3
    exact .inr (h' F H x y d e z Q s h1 h2 h3 k)
theorem okPy_parts {d : D} (h : okPy d = true) : isData d = true ∧ SeqAt.shaped (toPy d) = true := Bool.and_eq_true_iff.mp h
theorem ov_eq : OpV X (fun x y H Q => rEq x y H Q ∨ rEqD X.K x y H Q) eqD := by
  intro F H x y d e z Q s h1 h2 h3 k
  unfold eqD at h3
  split at h3
  · rename_i a b
    cases h3
    cases h1
    cases h2
    refine .inl ⟨rfl, ?_⟩
    have z : decide (V.str a = V.str b) = decide (a = b) := by
      by_cases q : a = b
      · rw [q]
        simp
      · rw [decide_eq_false q, decide_eq_false fun w => q (by cases w; rfl)]
    rw [z]
    exact k _ rfl
  · split at h3
    · rename_i hc
      cases h3
      obtain ⟨a1, a2⟩ := okPy_parts hc.1
      obtain ⟨b1, b2⟩ := okPy_parts hc.2
      exact .inr ⟨_, _, vw_dp s d x a1 h1, vw_dp s e y b1 h2, a2, b2, k _ rfl⟩
    · cases h3
theorem ov_ne : OpV X (fun x y H Q => rNe x y H Q ∨ rNeD X.K x y H Q) neD := by
  intro F H x y d e z Q s h1 h2 h3 k
  unfold neD at h3
  split at h3
  · rename_i a b
    cases h3
    cases h1
    cases h2
    refine .inl ⟨rfl, ?_⟩
    have z : decide (V.str a = V.str b) = decide (a = b) := by
      by_cases q : a = b
      · rw [q]
        simp
      · rw [decide_eq_false q, decide_eq_false fun w => q (by cases w; rfl)]
    rw [z]
    exact k _ rfl
  · split at h3
    · rename_i hc
      cases h3
      obtain ⟨a1, a2⟩ := okPy_parts hc.1
      obtain ⟨b1, b2⟩ := okPy_parts hc.2
      exact .inr ⟨_, _, vw_dp s d x a1 h1, vw_dp s e y b1 h2, a2, b2, k _ rfl⟩
    · cases h3
theorem op_eqA (hu : X.A.units + 64 < cLine) : OpR X (compareOp .Eq) (fun x y H Q => rEq x y H Q ∨ rEqD X.K x y H Q) := op_eq.or (op_eqD hu)
theorem op_neA (hu : X.A.units + 64 < cLine) : OpR X (compareOp .NotEq) (fun x y H Q => rNe x y H Q ∨ rNeD X.K x y H Q) := op_ne.or (op_neD hu)
theorem isN_ref {x y : D} {z : D} (h : isN x y = some z) : y = .non ∧ ((x = .non ∧ z = .bl true) ∨ (z = .bl false ∧ ∀ (F H : Hp) (v : V), vw X.K X.mg F H x v → v ≠ .non)) := by
  cases x <;> cases y <;> simp only [isN] at h <;> (first | cases h | skip) <;> refine ⟨rfl, ?_⟩
  · exact .inl ⟨rfl, rfl⟩
  all_goals refine .inr ⟨rfl, fun F H v hv => ?_⟩
  · rw [show v = _ from hv]; exact fun z => nomatch z
  · rw [show v = _ from hv]; exact fun z => nomatch z
  · rw [show v = _ from hv]; exact fun z => nomatch z
  · obtain ⟨_, _, e, _⟩ := hv; rw [e]; exact fun z => nomatch z
  · obtain ⟨_, _, e, _⟩ := hv; rw [e]; exact fun z => nomatch z
  · obtain ⟨_, _, e, _⟩ := hv; rw [e]; exact fun z => nomatch z
  · obtain ⟨_, _, e, _⟩ := hv; rw [e]; exact fun z => nomatch z
  · obtain ⟨_, _, _, _, e, _⟩ := hv; rw [e]; exact fun z => nomatch z
theorem ov_isN : OpV X (fun x y H Q => y = .non ∧ Q (.bl (decide (x = .non))) H) isN := by
  intro F H x y d e z Q s h1 h2 h3 k
  obtain ⟨rfl, ⟨rfl, rfl⟩ | ⟨rfl, hn⟩⟩ := isN_ref (X := X) h3
  · cases h1
    exact ⟨h2, k _ rfl⟩
  · refine ⟨h2, ?_⟩
    rw [decide_eq_false (hn F H x h1)]
    exact k _ rfl
theorem ov_notN : OpV X (fun x y H Q => y = .non ∧ Q (.bl (!decide (x = .non))) H) notN := by
  intro F H x y d e z Q s h1 h2 h3 k
  unfold notN at h3
  split at h3
  · rename_i b hb
    cases h3
    obtain ⟨rfl, ⟨rfl, w⟩ | ⟨w, hn⟩⟩ := isN_ref (X := X) hb
    · cases w
      cases h1
      exact ⟨h2, k _ rfl⟩
    · cases w
      refine ⟨h2, ?_⟩
      rw [decide_eq_false (hn F H x h1)]
      exact k _ rfl
  · cases h3
theorem sl100 {n : Nat} (h : n ≤ 100000) : n ≤ sizeLine := Nat.le_trans h (by decide)
theorem on_cat : OpN X rCat catL := by
  intro F H x y d e z Q s h1 h2 h3 k
  unfold catL at h3
  split at h3
  · split at h3
    · rename_i hc
      cases h3
      obtain ⟨a, xs, rfl, ha, ra⟩ := h1
      obtain ⟨b, ys, rfl, hb, rb⟩ := h2
      exact ⟨a, b, xs, ys, rfl, rfl, ha, hb, sl100 (by rw [repL_len ra, repL_len rb]; exact hc), fun p hp => k p _ hp ⟨_, upd_same, repL_app ra rb⟩⟩
    · cases h3
  · cases h3
theorem ov_addS : OpV X (fun x y H Q => ∃ i j, x = .str i ∧ y = .str j ∧ i.length + j.length ≤ sizeLine ∧ Q (.str (i ++ j)) H) addS := by
  intro F H x y d e z Q s h1 h2 h3 k
  unfold addS at h3
  split at h3
  · split at h3
    · rename_i hc
      cases h3
      exact ⟨_, _, h1, h2, sl100 hc, k _ rfl⟩
    · cases h3
  · cases h3
theorem ixN_lt {n : Nat} {i : Int} {j : Nat} (h : ixN n i = some j) : j < n := (ixN_seq h).2.1
theorem atI_rep {F : Hp} {ds : List D} {vs : List V} {i : Int} {d : D} (h : repL X.K X.mg F ds vs) (e : atI ds i = some d) : ∃ v, atI vs i = some v ∧ rep X.K X.mg F d v := by
  unfold atI at e ⊢
  rw [repL_len h]
  cases q : ixN ds.length i with
  | none =>
    rw [q] at e
    cases e
  | some j =>
    rw [q] at e
    exact repL_get h e
theorem atI_map {α β : Type} {xs : List α} {f : α → β} {i : Int} : atI (xs.map f) i = (atI xs i).map f := by
  unfold atI
  rw [List.length_map]
  cases ixN xs.length i with
  | none => rfl
  | some j => simp
theorem ov_ix : OpV X (rIx X.K) ixG := by
  intro F H x y d e z Q s h1 h2 h3 k
  unfold ixG at h3
  split at h3
  · obtain ⟨a, xs, rfl, ha, ra⟩ := h1
    obtain ⟨v, e1, e2⟩ := atI_rep ra h3
    exact .inl ⟨a, xs, _, v, rfl, h2, SqL.of ha, e1, k v e2⟩
  · obtain ⟨a, xs, rfl, ha, ra⟩ := h1
    obtain ⟨v, e1, e2⟩ := atI_rep ra h3
    exact .inr (.inl ⟨a, xs, _, v, rfl, h2, ha, e1, k v e2⟩)
  · split at h3
    · rename_i hc
      cases q : atI (_ : List Nat) _ with
      | none =>
        rw [q] at h3
        cases h3
      | some c =>
        rw [q] at h3
        cases h3
        exact .inr (.inr ⟨_, _, c, h1, h2, sl100 hc, q, k _ rfl⟩)
    · cases h3
  · rename_i ns i
    obtain ⟨a, rfl, ha⟩ := h1
    cases q : atI ns i with
    | none =>
      rw [q] at h3
      cases h3
    | some n =>
      rw [q] at h3
      cases h3
      exact .inl ⟨a, _, i, .int n, rfl, h2, ha, by rw [atI_map, q]; rfl, k _ rfl⟩
  · cases h3
theorem ov_inLst : OpV X (rInD X.K) inLst := by
  intro F H x y d e z Q s h1 h2 h3 k
  unfold inLst at h3
  split at h3
  · split at h3
    · rename_i hc
      cases h3
      obtain ⟨a1, a2⟩ := okPy_parts hc.1
      obtain ⟨b1, b2⟩ := okPy_parts hc.2
      have z := vw_dp s _ y b1 h2
      rw [toPy] at z b2
      exact ⟨_, _, vw_dp s d x a1 h1, z, a2, b2, k _ rfl⟩
    · cases h3
  · cases h3
theorem ov_ninLst : OpV X (rNotInD X.K) ninLst := by
  intro F H x y d e z Q s h1 h2 h3 k
  unfold ninLst at h3
  split at h3
  · split at h3
    · rename_i hc
      cases h3
      obtain ⟨a1, a2⟩ := okPy_parts hc.1
      obtain ⟨b1, b2⟩ := okPy_parts hc.2
      have z := vw_dp s _ y b1 h2
      rw [toPy] at z b2
      exact ⟨_, _, vw_dp s d x a1 h1, z, a2, b2, k _ rfl⟩
    · cases h3
  · cases h3
theorem ov_inStr : OpV X (fun x y H Q => ∃ i j, x = .str i ∧ y = .str j ∧ Q (.bl (!(Builtin.Str.occurrences j i 0 j.length 1).isEmpty)) H) inStr := by
  intro F H x y d e z Q s h1 h2 h3 k
  unfold inStr at h3
  split at h3
  · cases h3
    exact ⟨_, _, h1, h2, k _ rfl⟩
  · cases h3
theorem uv_len : UnV X (fun v H Q => ∃ x n, [v] = [x] ∧ LenV X.K x H n ∧ Q (.int n) H) lenD := by
  intro F H v d z Q s h1 h3 k
  unfold lenD at h3
  split at h3
  · cases h3
    obtain ⟨a, xs, rfl, ha, ra⟩ := h1
    exact ⟨_, _, rfl, .inl ⟨xs, SqL.of ha, (repL_len ra).symm⟩, k _ rfl⟩
  · cases h3
    obtain ⟨a, xs, rfl, ha, ra⟩ := h1
    exact ⟨_, _, rfl, .inr ⟨xs, ha, (repL_len ra).symm⟩, k _ rfl⟩
  · split at h3
    · rename_i hc
      cases h3
      cases h1
      exact ⟨_, _, rfl, ⟨sl100 hc, rfl⟩, k _ rfl⟩
    · cases h3
  · cases h3
    obtain ⟨a, rfl, ha⟩ := h1
    exact ⟨_, _, rfl, .inl ⟨_, ha, by rw [List.length_map]⟩, k _ rfl⟩
  · cases h3
end
end Dl

set_option Elab.async false
set_option linter.all false
set_option maxRecDepth 100000
set_option maxHeartbeats 4000000
namespace Dl
open PySem L2

/-! ### built-ins by name -/
section
variable {X : Cx} {W : WX} {e e2 : Expr} {x : Str} {p pos : Pos} {fa fb : En → Res (BV × En)} {id T : String} {rr : List V → Hp → VK → Prop} {g : D → Option D} {g2 : D → D → Option D}
theorem de_b1 (hc : CallR X (.builtin id) rr) (hv : UnV X (fun v H Q => rr [v] H Q) g) (hg : Gl X x) (hm : X.mg x = none) (hb : bootBuiltins x = some (.builtin id)) (ha : DB X W e fa) (hst : starEach [e] X.env = (false, eval e X.env) :: starEach [] X.env := by rfl)
    (hn : x ≠ "__name__" := by decide) (hdb : (x == ("__debug__" : Str)) = false := by decide) : DE X W (.Call (.Name x p) [e] [] pos) (eUn g fa) := by
  obtain ⟨t, hp, he⟩ := ha.ex
  exact ⟨_, pe_callB hc hg hm hb (pa_cons hp pa_nil hst) hn hdb hst rfl, un_ent (rr := fun v H Q => rr [v] H Q) he (unV_hr hv)⟩
theorem dn_b1 (hc : CallR X (.builtin id) rr) (hv : UnN X (fun v H Q => rr [v] H Q) g) (hg : Gl X x) (hm : X.mg x = none) (hb : bootBuiltins x = some (.builtin id)) (ha : DB X W e fa) (hst : starEach [e] X.env = (false, eval e X.env) :: starEach [] X.env := by rfl)
    (hn : x ≠ "__name__" := by decide) (hdb : (x == ("__debug__" : Str)) = false := by decide) : DN X W (.Call (.Name x p) [e] [] pos) (eUn g fa) := by
  obtain ⟨t, hp, he⟩ := ha.ex
  exact ⟨_, pe_callB hc hg hm hb (pa_cons hp pa_nil hst) hn hdb hst rfl, un_ent (rr := fun v H Q => rr [v] H Q) he (unN_hr hv)⟩
theorem de_t1 (hc : CallR X (.type T) rr) (hv : UnV X (fun v H Q => rr [v] H Q) g) (hg : Gl X x) (hm : X.mg x = none) (hb : bootBuiltins x = some (.type T)) (ha : DB X W e fa) (hst : starEach [e] X.env = (false, eval e X.env) :: starEach [] X.env := by rfl)
    (hn : x ≠ "__name__" := by decide) (hdb : (x == ("__debug__" : Str)) = false := by decide) : DE X W (.Call (.Name x p) [e] [] pos) (eUn g fa) := by
  obtain ⟨t, hp, he⟩ := ha.ex
  exact ⟨_, pe_callTy hc hg hm hb (pa_cons hp pa_nil hst) hn hdb hst rfl, un_ent (rr := fun v H Q => rr [v] H Q) he (unV_hr hv)⟩
theorem dn_t1 (hc : CallR X (.type T) rr) (hv : UnN X (fun v H Q => rr [v] H Q) g) (hg : Gl X x) (hm : X.mg x = none) (hb : bootBuiltins x = some (.type T)) (ha : DB X W e fa) (hst : starEach [e] X.env = (false, eval e X.env) :: starEach [] X.env := by rfl)
    (hn : x ≠ "__name__" := by decide) (hdb : (x == ("__debug__" : Str)) = false := by decide) : DN X W (.Call (.Name x p) [e] [] pos) (eUn g fa) := by
  obtain ⟨t, hp, he⟩ := ha.ex
  exact ⟨_, pe_callTy hc hg hm hb (pa_cons hp pa_nil hst) hn hdb hst rfl, un_ent (rr := fun v H Q => rr [v] H Q) he (unN_hr hv)⟩
theorem de_b2 (hc : CallR X (.builtin id) rr) (hv : OpV X (fun v u H Q => rr [v, u] H Q) g2) (hg : Gl X x) (hm : X.mg x = none) (hb : bootBuiltins x = some (.builtin id)) (ha : DB X W e fa) (ha2 : DB X W e2 fb)
    (hst : starEach [e, e2] X.env = (false, eval e X.env) :: starEach [e2] X.env := by rfl) (hst2 : starEach [e2] X.env = (false, eval e2 X.env) :: starEach [] X.env := by rfl)
    (hn : x ≠ "__name__" := by decide) (hdb : (x == ("__debug__" : Str)) = false := by decide) : DE X W (.Call (.Name x p) [e, e2] [] pos) (eBin g2 fa fb) := by
  obtain ⟨t, hp, he⟩ := ha.ex
  obtain ⟨t2, hp2, he2⟩ := ha2.ex
  exact ⟨_, pe_callB hc hg hm hb (pa_cons hp (pa_cons hp2 pa_nil hst2) hst) hn hdb hst (by rw [hst2]; rfl), bin_ent (rr := fun v u H Q => rr [v, u] H Q) he he2 (opV_hr hv)⟩
end

/-! ### the built-ins' values -/
def blsOf : List D → Option (List Bool)
  | [] => some []
  | .bl b :: ds => (blsOf ds).map (b :: ·)
  | _ => none
def intsOf : List D → Option (List Int)
  | [] => some []
  | .int b :: ds => (intsOf ds).map (b :: ·)
  | _ => none
def allD : D → Option D
  | .lst ds => (blsOf ds).map fun bs => .bl (bs.all id)
  | _ => none
def anyD : D → Option D
  | .lst ds => (blsOf ds).map fun bs => .bl (bs.any id)
  | _ => none
def sumD : D → Option D
  | .lst ds => (intsOf ds).map fun bs => .int bs.sum
  | _ => none
def absD : D → Option D
  | .int i => some (.int (if i < 0 then -i else i))
  | _ => none
def max2D : D → D → Option D
  | .int i, .int j => some (.int (if j > i then j else i))
  | _, _ => none
def min2D : D → D → Option D
  | .int i, .int j => some (.int (if j < i then j else i))
  | _, _ => none
def intD : D → Option D
  | .int i => some (.int i)
  | .bl b => some (.int (if b then 1 else 0))
  | _ => none
def listD : D → Option D
  | .lst ds => some (.lst ds)
  | .tup ds => some (.lst ds)
  | _ => none
def dictD : D → Option D
  | .dk kvs => some (.dk kvs)
  | _ => none
def allAlikeB (ds : List PyData) : Bool := ds.all fun d => ds.all fun d' => PySem.W.alike d d'
def sortableB (ds : List PyData) : Bool := (ds.all fun d => match d with
  | .tuple (_ :: _) => true
  | _ => false) || ds.all fun d => match d with
  | .none => false
  | .tuple _ => false
  | _ => true
def okPyL (ds : List D) : Bool := ds.all okPy
def sortedD : D → Option D
  | .lst ds => if okPyL ds = true ∧ allAlikeB (ds.map toPy) = true ∧ sortableB (ds.map toPy) = true ∧ ds.length ≤ 100000 then some (.lst (ds.mergeSort (PySem.W.dataLe false toPy))) else none
  | _ => none
theorem blsOf_map {K : PySem.W.Frag} {mg : Str → Option Value} {F : Hp} : ∀ {ds : List D} {vs : List V} {bs : List Bool}, repL K mg F ds vs → blsOf ds = some bs → vs = bs.map V.bl
  | [], _, _, h, e => by
    cases h
    cases e
    rfl
  | d :: ds, _, bs, h, e => by
    obtain ⟨w, ws, rfl, h1, h2⟩ := h
    cases d with
    | bl b =>
      unfold blsOf at e
      cases q : blsOf ds with
      | none =>
        rw [q] at e
        cases e
      | some cs =>
        rw [q] at e
        cases e
        rw [List.map_cons, blsOf_map h2 q, show w = .bl b from h1]
    | _ => cases e
theorem intsOf_map {K : PySem.W.Frag} {mg : Str → Option Value} {F : Hp} : ∀ {ds : List D} {vs : List V} {bs : List Int}, repL K mg F ds vs → intsOf ds = some bs → vs = bs.map V.int
  | [], _, _, h, e => by
    cases h
    cases e
    rfl
  | d :: ds, _, bs, h, e => by
    obtain ⟨w, ws, rfl, h1, h2⟩ := h
    cases d with
    | int b =>
      unfold intsOf at e
      cases q : intsOf ds with
      | none =>
        rw [q] at e
        cases e
      | some cs =>
        rw [q] at e
        cases e
        rw [List.map_cons, intsOf_map h2 q, show w = .int b from h1]
    | _ => cases e
section
variable {X : Cx}
theorem uv_all : UnV X (fun v H Q => rAll X.K [v] H Q) allD := by
  intro F H v d z Q s h1 h3 k
  unfold allD at h3
  split at h3
  · rename_i ds
    obtain ⟨a, xs, rfl, ha, ra⟩ := h1
    cases q : blsOf ds with
    | none =>
      rw [q] at h3
      cases h3
    | some bs =>
      rw [q] at h3
      cases h3
      exact ⟨a, bs, rfl, SqL.of (by rw [← blsOf_map ra q]; exact ha), k _ rfl⟩
  · cases h3
theorem uv_any : UnV X (fun v H Q => rAny X.K [v] H Q) anyD := by
  intro F H v d z Q s h1 h3 k
  unfold anyD at h3
  split at h3
  · rename_i ds
    obtain ⟨a, xs, rfl, ha, ra⟩ := h1
    cases q : blsOf ds with
    | none =>
      rw [q] at h3
      cases h3
    | some bs =>
      rw [q] at h3
      cases h3
      exact ⟨a, bs, rfl, SqL.of (by rw [← blsOf_map ra q]; exact ha), k _ rfl⟩
  · cases h3
theorem uv_sum : UnV X (fun v H Q => rSum X.K [v] H Q) sumD := by
  intro F H v d z Q s h1 h3 k
  unfold sumD at h3
  split at h3
  · rename_i ds
    obtain ⟨a, xs, rfl, ha, ra⟩ := h1
    cases q : intsOf ds with
    | none =>
      rw [q] at h3
      cases h3
    | some bs =>
      rw [q] at h3
      cases h3
      exact ⟨a, bs, rfl, SqL.of (by rw [← intsOf_map ra q]; exact ha), k _ rfl⟩
  · cases h3
theorem uv_abs : UnV X (fun v H Q => ∃ i, [v] = [.int i] ∧ Q (.int (if i < 0 then -i else i)) H) absD := by
  intro F H v d z Q s h1 h3 k
  unfold absD at h3
  split at h3
  · cases h3
    cases h1
    exact ⟨_, rfl, k _ rfl⟩
  · cases h3
theorem ov_max2 : OpV X (fun v u H Q => ∃ i j, [v, u] = [.int i, .int j] ∧ Q (.int (if j > i then j else i)) H) max2D := by
  intro F H x y d e z Q s h1 h2 h3 k
  unfold max2D at h3
  split at h3
  · cases h3
    cases h1
    cases h2
    exact ⟨_, _, rfl, k _ rfl⟩
  · cases h3
theorem ov_min2 : OpV X (fun v u H Q => ∃ i j, [v, u] = [.int i, .int j] ∧ Q (.int (if j < i then j else i)) H) min2D := by
  intro F H x y d e z Q s h1 h2 h3 k
  unfold min2D at h3
  split at h3
  · cases h3
    cases h1
    cases h2
    exact ⟨_, _, rfl, k _ rfl⟩
  · cases h3
theorem uv_int : UnV X (fun v H Q => (∃ i, [v] = [.int i] ∧ Q (.int i) H) ∨ ∃ k, [v] = [.bl k] ∧ Q (.int (if k then 1 else 0)) H) intD := by
  intro F H v d z Q s h1 h3 k
  unfold intD at h3
  split at h3
  · cases h3
    cases h1
    exact .inl ⟨_, rfl, k _ rfl⟩
  · cases h3
    cases h1
    exact .inr ⟨_, rfl, k _ rfl⟩
  · cases h3
theorem un_list : UnN X (fun v H Q => ∃ p ys, [v] = [.ref p] ∧ (SqL X.K H p ys ∨ SqT X.K H p ys) ∧ ∀ l, H l = none → Q (.ref l) (upd H l (.lst ys))) listD := by
  intro F H v d z Q s h1 h3 k
  unfold listD at h3
  split at h3
  · cases h3
    obtain ⟨a, xs, rfl, ha, ra⟩ := h1
    exact ⟨a, xs, rfl, .inl (SqL.of ha), fun l hl => k l _ hl ⟨xs, upd_same, ra⟩⟩
  · cases h3
    obtain ⟨a, xs, rfl, ha, ra⟩ := h1
    exact ⟨a, xs, rfl, .inr ha, fun l hl => k l _ hl ⟨xs, upd_same, ra⟩⟩
  · cases h3
theorem call_dictC : CallR X (.type "dict") (fun vs H Q => ∃ a kvs, vs = [.ref a] ∧ Rd H a (.dK kvs) ∧ ∀ p, H p = none → Q (.ref p) (upd H p (.dK kvs))) := by
  intro pins s σ H vs us Q I r h
  obtain ⟨a, kvs, rfl, hr, q⟩ := h
  rw [Vals.ref1 r]
  exact d_copyOf I hr fun p s' hp I' => ⟨.ref p, _, I', rfl, q p hp⟩
theorem un_dictC : UnN X (fun v H Q => ∃ a kvs, [v] = [.ref a] ∧ Rd H a (.dK kvs) ∧ ∀ p, H p = none → Q (.ref p) (upd H p (.dK kvs))) dictD := by
  intro F H v d z Q s h1 h3 k
  unfold dictD at h3
  split at h3
  · cases h3
    obtain ⟨a, ws, rfl, ha, ra⟩ := h1
    exact ⟨a, ws, rfl, ha, fun l hl => k l _ hl ⟨ws, upd_same, ra⟩⟩
  · cases h3
theorem call_lenK : CallR X (.builtin "len") (fun xs H Q => ∃ a kvs, xs = [.ref a] ∧ Rd H a (.dK kvs) ∧ Q (.int kvs.length) H) := by
  intro pins s σ H vs us Q I r h
  obtain ⟨a, kvs, rfl, hr, q⟩ := h
  rw [Vals.ref1 r]
  exact d_len I hr fun t s' I' => ⟨.int _, H, I', ⟨t, rfl⟩, q⟩
theorem repK_len {K : PySem.W.Frag} {mg : Str → Option Value} {F : Hp} : ∀ {ds : List (Key × D)} {vs : List (Key × V)}, repK K mg F ds vs → vs.length = ds.length
  | [], _, h => by
    cases h
    rfl
  | (k, d) :: ds, _, h => by
    obtain ⟨w, ws, rfl, _, h⟩ := h
    simp [repK_len h]
theorem uv_lenK : UnV X (fun v H Q => ∃ a kvs, [v] = [.ref a] ∧ Rd H a (.dK kvs) ∧ Q (.int kvs.length) H) lenK := by
  intro F H v d z Q s h1 h3 k
  unfold lenK at h3
  split at h3
  · cases h3
    obtain ⟨a, ws, rfl, ha, ra⟩ := h1
    exact ⟨a, ws, rfl, ha, k _ (by rw [repK_len ra]; rfl)⟩
  · cases h3
theorem allAlikeB_ok {ds : List PyData} (h : allAlikeB ds = true) : PySem.W.AllAlike ds := fun d hd d' hd' => List.all_eq_true.mp (List.all_eq_true.mp h d hd) d' hd'
theorem sortableB_ok {ds : List PyData} (h : sortableB ds = true) : PySem.W.Sortable ds := by
  rcases Bool.or_eq_true_iff.mp h with h | h
  · refine .inl fun d hd => ?_
    have q := List.all_eq_true.mp h d hd
    split at q
    · exact ⟨_, _, rfl⟩
    · cases q
  · refine .inr fun d hd => ?_
    have q := List.all_eq_true.mp h d hd
    split at q
    · cases q
    · cases q
    · rename_i h1 h2
      exact ⟨fun z => h1 z, fun xs z => h2 xs z⟩
/-- sorted(list of data) -/
def rSortD (K : PySem.W.Frag) (mg : Str → Option Value) : List V → Hp → VK → Prop := fun vs H Q => ∃ (a : Addr) (xs : List V) (F : Hp) (ds : List D), vs = [V.ref a] ∧ H a = some (.lst xs) ∧ Same F H ∧ repL K mg F ds xs ∧ okPyL ds = true ∧ allAlikeB (ds.map toPy) = true ∧ sortableB (ds.map toPy) = true ∧ ds.length ≤ 100000 ∧
  ∀ (p : Addr) (ys : List V), H p = none → repL K mg F (ds.mergeSort (PySem.W.dataLe false toPy)) ys → Q (.ref p) (upd H p (.lst ys))
theorem each_of {F : Hp} : ∀ {ds : List D} {xs : List V} {us : List Value}, repL X.K X.mg F ds xs → Vals xs us → PySem.W.EachIs (fun u d => ∃ v, RelV v u ∧ rep X.K X.mg F d v) us ds
  | [], _, _, h, r => by
    cases h
    cases r
    exact .nil
  | d :: ds, _, _, h, r => by
    obtain ⟨w, ws, rfl, h1, h2⟩ := h
    cases r with
    | cons r1 r2 => exact .cons ⟨w, r1, h1⟩ (each_of h2 r2)
theorem of_each {F : Hp} : ∀ {ds : List D} {us : List Value}, PySem.W.EachIs (fun u d => ∃ v, RelV v u ∧ rep X.K X.mg F d v) us ds → ∃ xs, repL X.K X.mg F ds xs ∧ Vals xs us
  | _, _, .nil => ⟨[], rfl, .nil⟩
  | _, _, .cons ⟨v, r, h⟩ t => by
    obtain ⟨xs, h1, h2⟩ := of_each t
    exact ⟨v :: xs, ⟨v, xs, rfl, h, h1⟩, .cons r h2⟩
theorem each_reads {F H : Hp} {pins : List (Addr × Obj)} {σ : St} {s : Shared} (I : Inv X pins σ H s) (sm : Same F H) : ∀ {ds : List D} {xs : List V} {us : List Value}, okPyL ds = true → repL X.K X.mg F ds xs → Vals xs us → PySem.W.EachIs (fun v b => ∃ as, Reads s.heap v (toPy b) as) us ds
  | [], _, _, _, h, r => by
    cases h
    cases r
    exact .nil
  | d :: ds, _, _, ok, h, r => by
    obtain ⟨w, ws, rfl, h1, h2⟩ := h
    have ok' : (okPy d && okPyL ds) = true := ok
    rw [Bool.and_eq_true] at ok'
    cases r with
    | cons r1 r2 => exact .cons (Dp.reads I _ _ _ (rep_dp sm d w (okPy_parts ok'.1).1 h1) r1) (each_reads I sm ok'.2 h2 r2)
theorem call_sortD (hu : X.A.units + 67 < cLine) : CallR X (.builtin "sorted") (rSortD X.K X.mg) := by
  intro pins s σ H vs us Q I r h
  obtain ⟨a, xs, F, ds, rfl, ha, sm, rl, ok, al, so, len, q⟩ := h
  rw [Vals.ref1 r]
  obtain ⟨its, rv, hl, hz⟩ := I.list (SqL.of ha)
  refine PySem.W.sorted_data (enc := toPy) (bs := ds) hl.isList (each_of rl rv) (each_reads I sm ok rl rv) (allAlikeB_ok al) (sortableB_ok so) (sl100 len) (fun b hb => ?_) fun out hlen he => ?_
  · have q := SeqAt.depth_of_shaped (okPy_parts (List.all_eq_true.mp ok b hb)).2
    omega
  · obtain ⟨ys, h1, h2⟩ := of_each he
    obtain ⟨ep, he'⟩ := PyProof.Rows.sortedAll_at s.heap its (List.toArray out)
    have hl' : ys.length ≤ sizeLine := by rw [repL_len h1, List.length_mergeSort]; exact sl100 len
    exact ⟨.ref _, upd H (s.heap.objs.size + 1) (.lst ys), I.laid (t' := s.toks) (fun _ _ => PyProof.Rows.sortedAll_old) (Nat.le_succ _) ⟨hl', out, ep, h2, by simpa using he'⟩, rfl, q _ ys (I.hok.fresh (Nat.le_succ _)) h1⟩
theorem un_sort : UnN X (fun v H Q => rSortD X.K X.mg [v] H Q) sortedD := by
  intro F H v d z Q s h1 h3 k
  unfold sortedD at h3
  split at h3
  · split at h3
    · rename_i hc
      cases h3
      obtain ⟨a, xs, rfl, ha, ra⟩ := h1
      exact ⟨a, xs, F, _, rfl, ha, s, ra, hc.1, hc.2.1, hc.2.2.1, hc.2.2.2, fun p ys hp hr => k p _ hp ⟨ys, upd_same, hr⟩⟩
    · cases h3
  · cases h3
end

/-! ### what is walked -/
def charsD (z : Str) : List D := z.cps.toList.map fun c => .str ⟨#[c]⟩
def seqD : D → Option (List D)
  | .lst ds => some ds
  | .tup ds => some ds
  | .str z => some (charsD z)
  | _ => none
def iSeq (f : En → Res (D × En)) : En → Res (List D × En) := fun r => (f r).bind fun p => (liftR (seqD p.1)).bind fun ds => .ok (ds, p.2)
def rngD (a b : Int) : List D := (List.range (b - a).toNat).map fun (i : Nat) => .int (a + i)
def iRg1 (f : En → Res (List D × En)) : En → Res (List D × En) := fun r => (f r).bind fun p => match p.1 with
  | [.int b] => if -(2 ^ 62) ≤ b ∧ b < 2 ^ 62 then .ok (rngD 0 b, p.2) else .bad
  | _ => .bad
def iRg2 (f : En → Res (List D × En)) : En → Res (List D × En) := fun r => (f r).bind fun p => match p.1 with
  | [.int a, .int b] => if -(2 ^ 62) ≤ a ∧ a < 2 ^ 62 ∧ -(2 ^ 62) ≤ b ∧ b < 2 ^ 62 then .ok (rngD a b, p.2) else .bad
  | _ => .bad
def enumD (ds : List D) : List D := ds.zipIdx.map fun q => .tup [.int q.2, q.1]
def iEn (f : En → Res (List D × En)) : En → Res (List D × En) := fun r => (f r).bind fun p => match p.1 with
  | [.lst ds] => .ok (enumD ds, p.2)
  | _ => .bad
section
variable {X : Cx} {W : WX} {tg e e2 : Expr} {p pos : Pos}
theorem wk_at {K : PySem.W.Frag} {mg : Str → Option Value} {F : Hp} {ds : List D} {vs : List V} {J : It} {G : Hp → Prop} (w : Walk J ds.length G (YAt vs)) (h : repL K mg F ds vs) (hG : ∀ F' H', Same F F' → Same F' H' → G H') : Wk K mg F ds J := by
  intro F' H' s1 s2
  have g := hG F' H' s1 s2
  refine ⟨fun i d e => ?_, w.stops H' g⟩
  have hlt := (List.getElem?_eq_some_iff.mp e).1
  refine ⟨w.goes i H' hlt g, fun x H'' y => ?_⟩
  obtain ⟨rfl, hx⟩ := w.yields i H' x H'' hlt g y
  obtain ⟨v, e1, e2⟩ := repL_get h e
  rw [hx] at e1
  cases e1
  exact ⟨F', Same.refl F', Same.refl _, s2, fun a h1 _ => h1, rep_mono s1 _ _ e2⟩
theorem wk_list {K : PySem.W.Frag} {mg : Str → Option Value} {F : Hp} {ds : List D} {vs : List V} {a : Addr} (ha : F a = some (.lst vs)) (h : repL K mg F ds vs) : Wk K mg F ds (Itl K a) := by
  refine wk_at (G := fun H => SqL K H a vs) (vs := vs) ?_ h fun F' H' s1 s2 => SqL.of (s2 _ _ (s1 _ _ ha))
  rw [← repL_len h]
  exact walk_list
theorem wk_tup {K : PySem.W.Frag} {mg : Str → Option Value} {F : Hp} {ds : List D} {vs : List V} {a : Addr} (ha : SqT K F a vs) (h : repL K mg F ds vs) : Wk K mg F ds (Itt K a) := by
  refine wk_at (G := fun H => SqT K H a vs) (vs := vs) ?_ h fun F' H' s1 s2 => sqT_mono s2 (sqT_mono s1 ha)
  rw [← repL_len h]
  exact walk_tup
theorem wk_str {K : PySem.W.Frag} {mg : Str → Option Value} {F : Hp} (z : Str) : Wk K mg F (charsD z) (Its z) := by
  intro F' H' s1 s2
  have w := walk_str (z := z)
  have hl : (charsD z).length = z.cps.size := by unfold charsD; simp
  refine ⟨fun i d e => ?_, by rw [hl]; exact w.stops H' trivial⟩
  have hlt := (List.getElem?_eq_some_iff.mp e).1
  rw [hl] at hlt
  refine ⟨w.goes i H' hlt trivial, fun x H'' y => ?_⟩
  obtain ⟨rfl, c, hc, hx⟩ := w.yields i H' x H'' hlt trivial y
  refine ⟨F', Same.refl F', Same.refl _, s2, fun a h1 _ => h1, ?_⟩
  unfold charsD at e
  rw [List.getElem?_map] at e
  have hc' : z.cps.toList[i]? = some c := by simpa using hc
  rw [hc'] at e
  cases e
  exact hx
theorem wk_range {K : PySem.W.Frag} {mg : Str → Option Value} {F : Hp} (a : Int) (n : Nat) : Wk K mg F ((List.range n).map fun (i : Nat) => .int (a + i)) (Itr a n) := by
  intro F' H' s1 s2
  have w := walk_range (lo := a) (n := n)
  refine ⟨fun i d e => ?_, by rw [List.length_map, List.length_range]; exact w.stops H' trivial⟩
  have hlt := (List.getElem?_eq_some_iff.mp e).1
  rw [List.length_map, List.length_range] at hlt
  refine ⟨w.goes i H' hlt trivial, fun x H'' y => ?_⟩
  obtain ⟨rfl, hx⟩ := w.yields i H' x H'' hlt trivial y
  refine ⟨F', Same.refl F', Same.refl _, s2, fun a h1 _ => h1, ?_⟩
  rw [List.getElem?_map, List.getElem?_range hlt] at e
  cases e
  exact hx
theorem wk_pair {K : PySem.W.Frag} {mg : Str → Option Value} {F : Hp} {ds : List D} {J : It} {G : Hp → Prop} {xs ys : Nat → Option V} (w : Walk J ds.length G (YPair xs ys)) (hG : ∀ F' H', Same F F' → Same F' H' → G H')
    (hp : ∀ i d x y, ds[i]? = some d → xs i = some x → ys i = some y → ∃ a b, d = .tup [a, b] ∧ rep K mg F a x ∧ rep K mg F b y) : Wk K mg F ds J := by
  intro F' H' s1 s2
  have g := hG F' H' s1 s2
  refine ⟨fun i d e => ?_, w.stops H' g⟩
  have hlt := (List.getElem?_eq_some_iff.mp e).1
  refine ⟨w.goes i H' hlt g, fun v H'' y => ?_⟩
  obtain ⟨T, x, z, rfl, hT, rfl, hx, hy⟩ := w.yields i H' v H'' hlt g y
  obtain ⟨a, b, rfl, ra, rb⟩ := hp i d x z e hx hy
  have fT : F' T = none := s2.free hT
  refine ⟨upd F' T (.tup [x, z]), same_new fT, same_new hT, fun c u hc => ?_, fun c h1 h2 => ?_, T, [x, z], rfl, SqT.of upd_same, x, [z], rfl, rep_mono (s1.trans (same_new fT)) _ _ ra, z, [], rfl, rep_mono (s1.trans (same_new fT)) _ _ rb, rfl⟩
  · by_cases q : c = T
    · subst q
      rw [upd_same] at hc ⊢
      exact hc
    · rw [upd_ne q] at hc ⊢
      exact s2 _ _ hc
  · rw [upd_ne fun z => h2 (by rw [z]; exact hT)]
    exact h1
theorem di_seq {f : En → Res (D × En)} (h : DE X W e f) : DI X W tg e (iSeq f) := by
  obtain ⟨t, hp, he⟩ := h.ex
  refine ⟨_, PI.or (PI.or (pi_list hp) (pi_tup hp)) (pi_str hp), fun B F H r σ Q R p => ?_⟩
  cases q : f r with
  | ok a =>
    obtain ⟨d, r'⟩ := a
    unfold iSeq at p
    simp only [q, bind_ok] at p
    cases d with
    | lst ds =>
      refine .inl (.inl (he B F H r σ _ R ?_))
      rw [q]
      intro v F1 H1 R1 s1 x1
      obtain ⟨a, xs, rfl, ha, ra⟩ := x1
      exact ⟨a, rfl, ⟨xs, SqL.of (R1.fh _ _ ha)⟩, p _ F1 H1 R1 s1 (wk_list ha ra)⟩
    | tup ds =>
      refine .inl (.inr (he B F H r σ _ R ?_))
      rw [q]
      intro v F1 H1 R1 s1 x1
      obtain ⟨a, xs, rfl, ha, ra⟩ := x1
      exact ⟨a, rfl, ⟨xs, sqT_mono R1.fh ha⟩, p _ F1 H1 R1 s1 (wk_tup ha ra)⟩
    | str z =>
      refine .inr (he B F H r σ _ R ?_)
      rw [q]
      intro v F1 H1 R1 s1 x1
      exact ⟨z, x1, p _ F1 H1 R1 s1 (wk_str z)⟩
    | _ => exact p.elim
  | er c fs r' =>
    unfold iSeq at p
    simp only [q, bind_er] at p
    refine .inl (.inl (he B F H r σ _ R ?_))
    rw [q]
    exact p
  | bad =>
    unfold iSeq at p
    simp only [q, bind_bad] at p
    exact p.elim
theorem di_range1 {f : En → Res (List D × En)} (hg : Gl X "range") (hm : X.mg "range" = none) (ha : DA X W [e] f) (hs : starEach [e] X.env = [(false, eval e X.env)] := by rfl) : DI X W tg (.Call (.Name "range" p) [e] [] pos) (iRg1 f) := by
  obtain ⟨t, hp, he⟩ := ha.ex
  refine ⟨_, pi_range1 hg hm hp hs, fun B F H r σ Q R p => he.to R p fun ds r1 vs F1 H1 R1 s1 x1 p1 => ?_⟩
  simp only at p1
  split at p1
  · rename_i b
    obtain ⟨w, ws, rfl, h1, h2⟩ := x1
    cases (show w = V.int b from h1)
    cases (show ws = [] from h2)
    split at p1
    · rename_i hc
      refine ⟨b, rfl, hc.1, hc.2, p1 _ F1 H1 R1 (Same.refl F1) ?_⟩
      have z := wk_range (K := X.K) (mg := X.mg) (F := F1) 0 (b - 0).toNat
      rw [show (b - 0).toNat = b.toNat by simp] at z
      show Wk X.K X.mg F1 (rngD 0 b) (Itr 0 b.toNat)
      unfold rngD
      rw [show (b - 0).toNat = b.toNat by simp]
      exact z
    · exact p1.elim
  · exact p1.elim
theorem di_range2 {f : En → Res (List D × En)} (hg : Gl X "range") (hm : X.mg "range" = none) (ha : DA X W [e, e2] f) (hs : starEach [e, e2] X.env = [(false, eval e X.env), (false, eval e2 X.env)] := by rfl) (hs2 : starEach [e2] X.env = [(false, eval e2 X.env)] := by rfl) :
    DI X W tg (.Call (.Name "range" p) [e, e2] [] pos) (iRg2 f) := by
  obtain ⟨t, hp, he⟩ := ha.ex
  refine ⟨_, pi_range2 hg hm hp hs hs2, fun B F H r σ Q R p => he.to R p fun ds r1 vs F1 H1 R1 s1 x1 p1 => ?_⟩
  simp only at p1
  split at p1
  · rename_i a b
    obtain ⟨w, ws, rfl, h1, h2⟩ := x1
    obtain ⟨w2, ws2, rfl, h3, h4⟩ := h2
    cases (show w = V.int a from h1)
    cases (show w2 = V.int b from h3)
    cases (show ws2 = [] from h4)
    split at p1
    · rename_i hc
      exact ⟨a, b, rfl, hc, p1 _ F1 H1 R1 (Same.refl F1) (wk_range a (b - a).toNat)⟩
    · exact p1.elim
  · exact p1.elim
theorem di_enum {f : En → Res (List D × En)} {elts : List Expr} {kk : Nat} {tpos : Pos} (hg : Gl X "enumerate") (hm : X.mg "enumerate" = none) (ha : DA X W [e] f) (hs : starEach [e] X.env = [(false, eval e X.env)] := by rfl) : DI X W (.Tuple elts kk tpos) (.Call (.Name "enumerate" p) [e] [] pos) (iEn f) := by
  obtain ⟨t, hp, he⟩ := ha.ex
  refine ⟨_, pi_enum hg hm hp hs, fun B F H r σ Q R p => he.to R p fun ds r1 vs F1 H1 R1 s1 x1 p1 => ?_⟩
  simp only at p1
  split at p1
  · rename_i es
    obtain ⟨w, ws, rfl, h1, h2⟩ := x1
    obtain ⟨a, xs, rfl, ha, ra⟩ := h1
    cases (show ws = [] from h2)
    refine ⟨a, xs, rfl, SqL.of (R1.fh _ _ ha), p1 _ F1 H1 R1 (Same.refl F1) ?_⟩
    have hl : (enumD es).length = xs.length := by unfold enumD; rw [List.length_map, List.length_zipIdx, repL_len ra]
    refine wk_pair (G := fun H => SqL X.K H a xs) (xs := fun i => some (.int (i : Nat))) (ys := fun i => xs[i]?) ?_ (fun F' H' s1 s2 => SqL.of (s2 _ _ (s1 _ _ ha))) ?_
    · rw [hl]
      exact walk_enum
    · intro i d x y e hx hy
      unfold enumD at e
      rw [List.getElem?_map, List.getElem?_zipIdx] at e
      cases q : es[i]? with
      | none =>
        rw [q] at e
        cases e
      | some d0 =>
        rw [q] at e
        cases e
        obtain ⟨v, e1, e2⟩ := repL_get ra q
        have hy' : xs[i]? = some y := hy
        rw [hy'] at e1
        cases e1
        cases hx
        exact ⟨_, _, rfl, by simp [rep], e2⟩
  · exact p1.elim
end
end Dl

set_option Elab.async false
set_option linter.all false
set_option maxRecDepth 100000
set_option maxHeartbeats 4000000
namespace Dl
open PySem L2

/-! ### isinstance -/
def tnD : D → Option String
  | .non => some "NoneType"
  | .bl _ => some "bool"
  | .int _ => some "int"
  | .str _ => some "str"
  | .lst _ => some "list"
  | .tup _ => some "tuple"
  | .dk _ => some "dict"
  | _ => none
def isT (t n : String) : Bool := t == n || (t == "bool" && n == "int")
def tyNs : List String := ["NoneType", "bool", "int", "str", "list", "tuple", "dict"]
def argNs : List String := ["int", "bool", "str", "list", "tuple", "dict"]
theorem kit_tab : ∀ t ∈ tyNs, ∀ n ∈ argNs, kitB t n = some (isT t n) := by decide +kernel
theorem tnD_mem {d : D} {t : String} (h : tnD d = some t) : t ∈ tyNs := by
  cases d <;> simp only [tnD] at h <;> first | (cases h; decide) | cases h
structure InsC (K : PySem.W.Frag) (C : Addr) : Prop where
  cl : Cls K C
  ha : PySem.W.findIn K (.ref C) "__class__" = some (some (.builtin "object.__class__"))
  hn : PySem.W.specialIn K (.builtin "object.__class__") "__get__" = some (some (.builtin "getset_descriptor.__get__"))
  htk : PySem.W.takesIn K (.builtin "object.__class__") = some true
  hm : PySem.W.mroIn K C (.type "object") = some true
theorem vw_ty {K : PySem.W.Frag} {mg : Str → Option Value} {F H : Hp} {d : D} {v : V} {t : String} (h : vw K mg F H d v) (e : tnD d = some t) : TyX K H v (.type t) := by
  cases d with
  | non =>
    cases h
    cases e
    exact .base .non
  | bl b =>
    cases h
    cases e
    exact .base (.bl b)
  | int b =>
    cases h
    cases e
    exact .base (.int b)
  | str b =>
    cases h
    cases e
    exact .base (.str b)
  | lst ds =>
    obtain ⟨a, xs, rfl, ha, _⟩ := h
    cases e
    exact .base (.lst ha)
  | tup ds =>
    obtain ⟨a, xs, rfl, ha, _⟩ := h
    cases e
    rcases ha with (ha | ⟨o, ha⟩) | ⟨o, its, n, hk, hc, _⟩
    · exact .base (.tup ha)
    · exact .fTuple ha
    · exact .kTuple hk hc
  | dk kvs =>
    obtain ⟨a, xs, rfl, ha, _⟩ := h
    cases e
    rcases ha with ha | ⟨o, ha⟩
    · exact .base (.dK ha)
    · exact .fDict ha
  | _ => cases e
/-- isinstance(x, (T1, ..)): built-in classes; instances of the classes cs are none of these -/
def isiB (ns : List String) (cs : List Str) : D → Option D
  | .ins c _ => if c ∈ cs then some (.bl false) else none
  | d => (tnD d).map fun t => .bl (ns.any fun n => isT t n)
/-- isinstance(x, C), C an own class; the instances of cs are none -/
def isiO (c : Str) (cs : List Str) : D → Option D
  | .ins c' _ => if c' = c then some (.bl true) else if c' ∈ cs then some (.bl false) else none
  | d => (tnD d).map fun _ => .bl false
theorem kitAny_tab {K : PySem.W.Frag} {t : String} (ht : t ∈ tyNs) : ∀ {ns : List String}, (∀ n ∈ ns, n ∈ argNs) → PySem.W.kitAny K (.type t) (ns.map Value.type) = some (ns.any fun n => isT t n)
  | [], _ => rfl
  | n :: ns, h => by
    have k := kit_ty (K := K) (kit_tab t ht n (h n (by simp)))
    rw [List.map_cons, List.any_cons]
    unfold PySem.W.kitAny
    rw [k]
    cases isT t n with
    | true => rfl
    | false =>
      rw [Bool.false_or]
      exact kitAny_tab ht fun m hm => h m (List.mem_cons_of_mem _ hm)
theorem kitAny_no {K : PySem.W.Frag} {t : Value} : ∀ {us : List Value}, (∀ u ∈ us, PySem.W.kitOne K t u = some false) → PySem.W.kitAny K t us = some false
  | [], _ => rfl
  | u :: us, h => by
    unfold PySem.W.kitAny
    rw [h u (by simp)]
    exact kitAny_no fun m hm => h m (List.mem_cons_of_mem _ hm)
/-- what is known of own classes for isinstance -/
structure NotB (K : PySem.W.Frag) (mg : Str → Option Value) (cs : List Str) (ns : List String) : Prop where
  h : ∀ c ∈ cs, ∀ C, mg c = some (.ref C) → InsC K C ∧ ∀ n ∈ ns, PySem.W.kitOne K (.ref C) (.type n) = some false
theorem vw_isi {K : PySem.W.Frag} {mg : Str → Option Value} {F H : Hp} {d z : D} {v : V} {ns : List String} {cs : List Str} (hns : ∀ n ∈ ns, n ∈ argNs) (hcs : NotB K mg cs ns) (h : vw K mg F H d v) (e : isiB ns cs d = some z) :
    ∃ t b, z = .bl b ∧ TyX K H v t ∧ PySem.W.kitAny K t (ns.map Value.type) = some b := by
  have key : ∀ t, tnD d = some t → z = .bl (ns.any fun n => isT t n) → ∃ t b, z = .bl b ∧ TyX K H v t ∧ PySem.W.kitAny K t (ns.map Value.type) = some b := fun t ht hz => ⟨_, _, hz, vw_ty h ht, kitAny_tab (tnD_mem ht) hns⟩
  cases d with
  | ins c fs =>
    unfold isiB at e
    by_cases hc : c ∈ cs
    · simp only [if_pos hc] at e
      cases e
      obtain ⟨a, C, dx, ws, rfl, hC, hH, _⟩ := h
      obtain ⟨k, kn⟩ := hcs.h c hc C hC
      refine ⟨.ref C, false, rfl, .base (.ins hH k.cl k.ha k.hn k.htk k.hm), kitAny_no fun u hu => ?_⟩
      obtain ⟨n, hn, rfl⟩ := List.mem_map.mp hu
      exact kn n hn
    · simp only [if_neg hc] at e
      cases e
  | non => cases e; exact key _ rfl rfl
  | bl b => cases e; exact key _ rfl rfl
  | int b => cases e; exact key _ rfl rfl
  | str b => cases e; exact key _ rfl rfl
  | lst b => cases e; exact key _ rfl rfl
  | tup b => cases e; exact key _ rfl rfl
  | dk b => cases e; exact key _ rfl rfl
  | _ => cases e
/-- the classes as arguments -/
def tTys (ns : List String) : TA := fun _ H Q => Q (ns.map V.ty) H
section
variable {X : Cx} {W : WX} {e : Expr} {p q pos tpos : Pos} {fa : En → Res (BV × En)}
theorem pa_ty0 : PA X [] (tTys []) := ⟨fun pos pins s σ H Q I h => pa_nil.run pos pins s σ H Q I h⟩
theorem pa_ty1 {x : Str} {n : String} {ns : List String} {es : List Expr} (hg : Gl X x) (hm : X.mg x = none) (hv : bootBuiltins x = some (.type n)) (hr : PA X es (tTys ns)) (hn : x ≠ "__name__" := by decide) (hd : (x == ("__debug__" : Str)) = false := by decide)
    (hs : starEach (.Name x q :: es) X.env = (false, eval (.Name x q) X.env) :: starEach es X.env := by rfl) : PA X (.Name x q :: es) (tTys (n :: ns)) :=
  ⟨fun pos pins s σ H Q I h => (pa_cons (pe_bltn (v := .ty n) hg hm hv rfl hn hd) hr hs).run pos pins s σ H Q I h⟩
theorem clsV_all : ∀ ns : List String, Paired ClsV (ns.map V.ty) (ns.map Value.type)
  | [] => .nil
  | n :: ns => .cons (.ty n) (clsV_all ns)
/-- isinstance(x, T) -/
theorem de_isi1 {x : Str} {n : String} {cs : List Str} (hgi : Gl X "isinstance") (hmi : X.mg "isinstance" = none) (hbi : bootBuiltins "isinstance" = some (.builtin "isinstance")) (hg : Gl X x) (hm : X.mg x = none) (hv : bootBuiltins x = some (.type n)) (hn : n ∈ argNs) (hcs : NotB X.K X.mg cs [n]) (ha : DB X W e fa)
    (hst : starEach [e, .Name x q] X.env = (false, eval e X.env) :: starEach [.Name x q] X.env := by rfl) (hst2 : starEach [.Name x q] X.env = (false, eval (.Name x q) X.env) :: starEach [] X.env := by rfl) (hxn : x ≠ "__name__" := by decide) (hd : (x == ("__debug__" : Str)) = false := by decide) :
    DE X W (.Call (.Name "isinstance" p) [e, .Name x q] [] pos) (eUn (isiB [n] cs) fa) := by
  obtain ⟨t, hp, he⟩ := ha.ex
  refine ⟨_, pe_callB call_isi hgi hmi hbi (pa_cons hp (pa_ty1 hg hm hv pa_ty0 hxn hd hst2) hst) (by decide) (by decide) hst (by rw [hst2]; rfl), ?_⟩
  refine un_ent (rr := fun v H Q => rIsi X.K [v, .ty n] H Q) he (unV_hr ?_)
  intro F H v d z Q s h1 h3 k
  obtain ⟨t, b, rfl, ht, hk⟩ := vw_isi (fun m hm => by rw [List.mem_singleton.mp hm]; exact hn) hcs h1 h3
  refine ⟨v, .ty n, t, .type n, b, rfl, .ty n, ht, ?_, k _ rfl⟩
  have hk' : (match PySem.W.kitOne X.K t (.type n) with
    | some true => some true
    | some false => some false
    | none => none) = some b := hk
  cases z : PySem.W.kitOne X.K t (.type n) with
  | none =>
    rw [z] at hk'
    cases hk'
  | some c =>
    rw [z] at hk'
    cases c <;> exact hk'
/-- isinstance(x, (T1, ..)) -/
theorem de_isiT {h : En → Res (D × En)} {es : List Expr} {kk : Nat} {ns : List String} {cs : List Str} (hgi : Gl X "isinstance") (hmi : X.mg "isinstance" = none) (hbi : bootBuiltins "isinstance" = some (.builtin "isinstance")) (hts : PA X es (tTys ns)) (hns : ∀ n ∈ ns, n ∈ argNs) (hl : ns.length ≤ 1000) (hcs : NotB X.K X.mg cs ns) (ha : DE X W e h)
    (hst : starEach [e, .Tuple es kk tpos] X.env = (false, eval e X.env) :: starEach [.Tuple es kk tpos] X.env := by rfl) (hst2 : starEach [.Tuple es kk tpos] X.env = (false, eval (.Tuple es kk tpos) X.env) :: starEach [] X.env := by rfl) :
    DE X W (.Call (.Name "isinstance" p) [e, .Tuple es kk tpos] [] pos) (eUn (isiB ns cs) (bOf h)) := by
  obtain ⟨t, hp, he⟩ := ha.ex
  refine ⟨_, pe_callB call_isiT hgi hmi hbi (pa_cons hp (pa_cons (pe_tup hts) pa_nil hst2) hst) (by decide) (by decide) hst (by rw [hst2]; rfl), fun B F H r σ Q R p0 => ?_⟩
  unfold eUn bOf at p0
  cases q : h r with
  | ok a =>
    obtain ⟨d, r1⟩ := a
    rw [q] at p0
    simp only [bind_ok, getB] at p0
    refine he B F H r σ _ R ?_
    rw [q]
    intro v F1 H1 R1 s1 x1
    cases z : isiB ns cs d with
    | none =>
      simp only [z, liftR, bind_bad] at p0
      exact p0.elim
    | some d1 =>
      simp only [z, liftR, bind_ok] at p0
      refine ⟨Nat.le_of_lt (small1000 (by rw [List.length_map]; exact hl)), fun pa hpa => ?_⟩
      have R2 := R1.newO (o := .tup (ns.map V.ty)) hpa
      have x2 := vw_of R2.fh d v x1
      obtain ⟨t, b, rfl, ht, hk⟩ := vw_isi hns hcs x2 z
      exact ⟨v, pa, _, t, _, b, rfl, upd_same, clsV_all ns, ht, hk, p0 _ F1 _ R2 s1 rfl⟩
  | er c fs r' =>
    rw [q] at p0
    refine he B F H r σ _ R ?_
    rw [q]
    exact p0
  | bad =>
    rw [q] at p0
    exact p0.elim
/-- isinstance(x, C) -/
theorem de_isiO {x : Str} {C : Addr} {cs : List Str} (hgi : Gl X "isinstance") (hmi : X.mg "isinstance" = none) (hbi : bootBuiltins "isinstance" = some (.builtin "isinstance")) (hg : Gl X x) (hm : X.mg x = some (.ref C)) (hb : ∀ t ∈ tyNs, PySem.W.kitOne X.K (.type t) (.ref C) = some false) (hc : InsC X.K C)
    (hcs : ∀ c ∈ cs, ∀ C', X.mg c = some (.ref C') → InsC X.K C' ∧ PySem.W.kitOne X.K (.ref C') (.ref C) = some false) (ha : DB X W e fa)
    (hst : starEach [e, .Name x q] X.env = (false, eval e X.env) :: starEach [.Name x q] X.env := by rfl) (hst2 : starEach [.Name x q] X.env = (false, eval (.Name x q) X.env) :: starEach [] X.env := by rfl) (hd : (x == ("__debug__" : Str)) = false := by decide) :
    DE X W (.Call (.Name "isinstance" p) [e, .Name x q] [] pos) (eUn (isiO x cs) fa) := by
  obtain ⟨t, hp, he⟩ := ha.ex
  refine ⟨_, pe_callB call_isi hgi hmi hbi (pa_cons hp (pa_cons (pe_glob (v := .ref C) hg hm rfl hd) pa_nil hst2) hst) (by decide) (by decide) hst (by rw [hst2]; rfl), ?_⟩
  refine un_ent (rr := fun v H Q => rIsi X.K [v, .ref C] H Q) he (unV_hr ?_)
  intro F H v d z Q s h1 h3 k
  have key : ∀ t, tnD d = some t → z = .bl false → rIsi X.K [v, .ref C] H Q := fun t ht hz => by
    subst hz
    exact ⟨v, .ref C, _, .ref C, false, rfl, .own C, vw_ty h1 ht, hb t (tnD_mem ht), k _ rfl⟩
  cases d with
  | ins c fs =>
    obtain ⟨a, C', dx, ws, rfl, hC, hH, _⟩ := h1
    unfold isiO at h3
    by_cases hcc : c = x
    · simp only [if_pos hcc] at h3
      cases h3
      rw [hcc, hm] at hC
      cases hC
      exact ⟨_, .ref C, .ref C, .ref C, true, rfl, .own C, .base (.ins hH hc.cl hc.ha hc.hn hc.htk hc.hm), by unfold PySem.W.kitOne; simp, k _ rfl⟩
    · simp only [if_neg hcc] at h3
      by_cases hc2 : c ∈ cs
      · simp only [if_pos hc2] at h3
        cases h3
        obtain ⟨k1, k2⟩ := hcs c hc2 C' hC
        exact ⟨_, .ref C, .ref C', .ref C, false, rfl, .own C, .base (.ins hH k1.cl k1.ha k1.hn k1.htk k1.hm), k2, k _ rfl⟩
      · simp only [if_neg hc2] at h3
        cases h3
  | non => cases h3; exact key _ rfl rfl
  | bl b => cases h3; exact key _ rfl rfl
  | int b => cases h3; exact key _ rfl rfl
  | str b => cases h3; exact key _ rfl rfl
  | lst b => cases h3; exact key _ rfl rfl
  | tup b => cases h3; exact key _ rfl rfl
  | dk b => cases h3; exact key _ rfl rfl
  | _ => cases h3
end
/-! ### slices -/
def doNone : En → Res (Option Int × En) := fun r => .ok (none, r)
def doSome (f : En → Res (D × En)) : En → Res (Option Int × En) := fun r => (f r).bind fun p => match p.1 with
  | .int i => .ok (some i, p.2)
  | _ => .bad
def rO : RR (Option Int) (Option Int) := fun _ _ _ _ _ a b => a = b
structure DO (X : Cx) (W : WX) (e : Option Expr) (f : En → Res (Option Int × En)) : Prop where
  ex : ∃ t, PO X e t ∧ Ent X.K X.mg W rO t f
def cutD (xs : List D) (lo hi : Option Int) : List D := (xs.drop (HT.sIx xs.length 0 lo)).take (HT.sIx xs.length xs.length hi - HT.sIx xs.length 0 lo)
def slL (d : D) (lo hi : Option Int) : Option D := match d with
  | .lst ds => some (.lst (cutD ds lo hi))
  | _ => none
def eSl (g : D → Option Int → Option Int → Option D) (fe : En → Res (BV × En)) (fl fh : En → Res (Option Int × En)) : En → Res (D × En) := fun r => (fe r).bind fun p => (fl p.2).bind fun l => (fh l.2).bind fun u => (getB p.1 u.2).bind fun d => (liftR (g d l.1 u.1)).bind fun z => .ok (z, u.2)
section
variable {K : PySem.W.Frag} {mg : Str → Option Value} {F : Hp}
theorem repL_drop : ∀ (n : Nat) {ds : List D} {vs : List V}, repL K mg F ds vs → repL K mg F (ds.drop n) (vs.drop n)
  | 0, _, _, h => h
  | n + 1, [], _, h => by
    cases h
    rfl
  | n + 1, d :: ds, _, h => by
    obtain ⟨w, ws, rfl, h1, h2⟩ := h
    exact repL_drop n h2
theorem repL_take : ∀ (n : Nat) {ds : List D} {vs : List V}, repL K mg F ds vs → repL K mg F (ds.take n) (vs.take n)
  | 0, _, _, h => by
    rw [List.take_zero, List.take_zero]
    rfl
  | n + 1, [], _, h => by
    cases h
    rfl
  | n + 1, d :: ds, _, h => by
    obtain ⟨w, ws, rfl, h1, h2⟩ := h
    exact ⟨w, _, rfl, h1, repL_take n h2⟩
end
section
variable {X : Cx} {W : WX} {e : Expr} {pos p2 : Pos} {fe : En → Res (BV × En)} {fl fh : En → Res (Option Int × En)} {lo hi : Option Expr}
theorem do_none : DO X W none doNone := ⟨_, po_none, fun B F H r σ Q R p => p none F H R (Same.refl F) rfl⟩
theorem do_some {f : En → Res (D × En)} (h : DE X W e f) : DO X W (some e) (doSome f) := by
  obtain ⟨t, hp, he⟩ := h.ex
  refine ⟨_, po_some hp, fun B F H r σ Q R p => he.to R p fun d r1 v F1 H1 R1 s1 x1 p1 => ?_⟩
  cases d with
  | int i => exact ⟨i, x1, p1 _ F1 H1 R1 (Same.refl F1) rfl⟩
  | _ => exact p1.elim
theorem dn_sl (he : DB X W e fe) (hl : DO X W lo fl) (hu : DO X W hi fh) : DN X W (.Subscript e (.Slice lo hi none p2) pos) (eSl slL fe fl fh) := by
  obtain ⟨t, hp, ee⟩ := he.ex
  obtain ⟨tl, hpl, el⟩ := hl.ex
  obtain ⟨tu, hpu, eu⟩ := hu.ex
  refine ⟨_, pe_slice sl_list hp hpl hpu, fun B F H r σ Q R p => ee.to R p fun b r1 v F1 H1 R1 s1 x1 p1 => ?_⟩
  refine el.to R1 p1 fun l r2 l' F2 H2 R2 s2 x2 p2 => ?_
  cases (show l = l' from x2)
  refine eu.to R2 p2 fun u r3 u' F3 H3 R3 s3 x3 p3 => ?_
  cases (show u = u' from x3)
  have x1' := rB_mono (r' := r3) (H' := H3) (s2.trans s3) x1
  cases g1 : getB b r3 with
  | ok d =>
    simp only [g1, bind_ok] at p3
    cases d with
    | lst ds =>
      obtain ⟨a, xs, rfl, ha, ra⟩ := getB_vw R3 x1' g1
      refine ⟨a, xs, rfl, SqL.of ha, fun pa hpa => ?_⟩
      refine p3 _ F3 _ (R3.newO hpa) (Same.refl F3) ⟨pa, rfl, R3.fh.free hpa, (R3.new_ne hpa).1, (R3.new_ne hpa).2, R3.loose_new hpa, _, upd_same, ?_⟩
      unfold cutD cutV
      rw [repL_len ra]
      exact repL_take _ (repL_drop _ ra)
    | _ => exact p3.elim
  | er c fs r' => exact (getB_ner g1).elim
  | bad =>
    simp only [g1, bind_bad] at p3
    exact p3.elim
end
/-! ### a < b < c -/
def eChain (g g' : D → D → Option D) (fa fb fc : En → Res (BV × En)) : En → Res (D × En) := fun r => (fa r).bind fun p => (fb p.2).bind fun q => (getB p.1 q.2).bind fun x => (getB q.1 q.2).bind fun y => match g x y with
  | some (.bl true) => (fc q.2).bind fun u => (getB q.1 u.2).bind fun y => (getB u.1 u.2).bind fun w => (liftR (g' y w)).bind fun z => .ok (z, u.2)
  | some (.bl false) => .ok (.bl false, q.2)
  | _ => .bad
section
variable {X : Cx} {W : WX} {a b c : Expr} {pos : Pos} {fa fb fc : En → Res (BV × En)} {g g' : D → D → Option D} {op op' : CmpOp} {r r' : R2}
theorem chain_ent {ta tb tc : TE} (ha : Ent X.K X.mg W (rB X.K X.mg) ta fa) (hb : Ent X.K X.mg W (rB X.K X.mg) tb fb) (hc : Ent X.K X.mg W (rB X.K X.mg) tc fc) (hv : OpV X r g) (hv' : OpV X r' g') : Ent X.K X.mg W (rE X.K X.mg) (tChain r r' ta tb tc) (eChain g g' fa fb fc) := by
  intro B F H r0 σ Q R p
  refine ha.to R p fun a r1 v F1 H1 R1 s1 x1 p1 => ?_
  refine hb.to R1 p1 fun b r2 u F2 H2 R2 s2 x2 p2 => ?_
  have x1' := rB_mono (r' := r2) (H' := H2) s2 x1
  cases g1 : getB a r2 with
  | ok d1 =>
    cases g2 : getB b r2 with
    | ok d2 =>
      simp only [g1, g2, bind_ok] at p2
      cases g3 : g d1 d2 with
      | some z =>
        simp only [g3] at p2
        cases z with
        | bl k =>
          refine hv F2 H2 v u d1 d2 (.bl k) _ R2.fh (getB_vw R2 x1' g1) (getB_vw R2 x2 g2) g3 fun w hw => ⟨k, hw, ?_⟩
          cases k with
          | true =>
            simp only at p2
            rw [if_pos rfl]
            refine hc.to R2 p2 fun e r3 t F3 H3 R3 s3 x3 p3 => ?_
            have x2' := rB_mono (r' := r3) (H' := H3) s3 x2
            cases g4 : getB b r3 with
            | ok d3 =>
              cases g5 : getB e r3 with
              | ok d4 =>
                simp only [g4, g5, bind_ok] at p3
                cases g6 : g' d3 d4 with
                | some z =>
                  simp only [g6, liftR, bind_ok] at p3
                  exact opV_hr hv' B F3 H3 r3 σ u t d3 d4 z Q R3 (getB_vw R3 x2' g4) (getB_vw R3 x3 g5) g6 p3
                | none =>
                  simp only [g6, liftR, bind_bad] at p3
                  exact p3.elim
              | er c fs r' => exact (getB_ner g5).elim
              | bad =>
                simp only [g4, g5, bind_ok, bind_bad] at p3
                exact p3.elim
            | er c fs r' => exact (getB_ner g4).elim
            | bad =>
              simp only [g4, bind_bad] at p3
              exact p3.elim
          | false =>
            simp only at p2
            rw [if_neg Bool.false_ne_true]
            exact p2 _ F2 H2 R2 (Same.refl F2) rfl
        | _ => exact p2.elim
      | none =>
        simp only [g3] at p2
        exact p2.elim
    | er c fs r' => exact (getB_ner g2).elim
    | bad =>
      simp only [g1, g2, bind_ok, bind_bad] at p2
      exact p2.elim
  | er c fs r' => exact (getB_ner g1).elim
  | bad =>
    simp only [g1, bind_bad] at p2
    exact p2.elim
end
end Dl

set_option Elab.async false
set_option linter.all false
set_option maxRecDepth 100000
set_option maxHeartbeats 4000000
namespace Dl
open PySem L2

/-! ### dicts -/
def keyD : D → Option Key
  | .int i => some (.inl i)
  | .str x => some (.inr x)
  | _ => none
def getKD (kvs : List (Key × D)) (k : Key) : Option D := (kvs.find? fun kv => decide (kv.1 = k)).map (·.2)
def putKD (kvs : List (Key × D)) (k : Key) (d : D) : List (Key × D) :=
  if (kvs.any fun kv => decide (kv.1 = k)) = true then kvs.map (fun kv => if kv.1 = k then (kv.1, d) else kv) else kvs ++ [(k, d)]
def dgetD : D → D → Option D
  | .dk kvs, k => (keyD k).bind fun k => getKD kvs k
  | _, _ => none
def dinD : D → D → Option D
  | k, .dk kvs => (keyD k).map fun k => .bl (getKD kvs k).isSome
  | _, _ => none
def dninD : D → D → Option D
  | k, .dk kvs => (keyD k).map fun k => .bl (!(getKD kvs k).isSome)
  | _, _ => none
section
variable {K : PySem.W.Frag} {mg : Str → Option Value} {F H : Hp}
theorem repK_get {k : Key} : ∀ {kvs : List (Key × D)} {ws : List (Key × V)}, repK K mg F kvs ws → (getKD kvs k = none ∧ valV ws k = none) ∨ ∃ d v, getKD kvs k = some d ∧ valV ws k = some v ∧ rep K mg F d v
  | [], _, h => by
    cases h
    exact .inl ⟨rfl, rfl⟩
  | (j, d) :: kvs, _, h => by
    obtain ⟨w, ws, rfl, h1, h2⟩ := h
    by_cases q : j = k
    · refine .inr ⟨d, w, ?_, ?_, h1⟩
      · unfold getKD
        simp [List.find?_cons, q]
      · exact valV_pos q
    · have e1 : getKD ((j, d) :: kvs) k = getKD kvs k := by
        unfold getKD
        simp [List.find?_cons, q]
      have e2 : valV ((j, w) :: ws) k = valV ws k := valV_neg q
      rw [e1, e2]
      exact repK_get h2
theorem keyD_rep {d : D} {k : Key} {v : V} (h : keyD d = some k) (hr : vw K mg F H d v) : v = kV k := by
  cases d with
  | int i =>
    cases h
    exact hr
  | str x =>
    cases h
    exact hr
  | _ => cases h
theorem repK_any {k : Key} : ∀ {kvs : List (Key × D)} {ws : List (Key × V)}, repK K mg F kvs ws → (ws.any fun kv => decide (kv.1 = k)) = (kvs.any fun kv => decide (kv.1 = k))
  | [], _, h => by
    cases h
    rfl
  | (j, d) :: kvs, _, h => by
    obtain ⟨w, ws, rfl, h1, h2⟩ := h
    simp only [List.any_cons, repK_any h2]
theorem repK_repl {k : Key} {d : D} {v : V} (hr : rep K mg F d v) : ∀ {kvs : List (Key × D)} {ws : List (Key × V)}, repK K mg F kvs ws → repK K mg F (kvs.map fun kv => if kv.1 = k then (kv.1, d) else kv) (ws.map fun kv => if kv.1 = k then (kv.1, v) else kv)
  | [], _, h => by
    cases h
    rfl
  | (j, d0) :: kvs, _, h => by
    obtain ⟨w, ws, rfl, h1, h2⟩ := h
    simp only [List.map_cons]
    by_cases q : j = k
    · simp only [if_pos q]
      exact ⟨v, _, rfl, hr, repK_repl hr h2⟩
    · simp only [if_neg q]
      exact ⟨w, _, rfl, h1, repK_repl hr h2⟩
theorem repK_app : ∀ {ds es : List (Key × D)} {vs ws : List (Key × V)}, repK K mg F ds vs → repK K mg F es ws → repK K mg F (ds ++ es) (vs ++ ws)
  | [], _, _, _, h, h' => by
    cases h
    exact h'
  | (k, d) :: ds, _, _, _, h, h' => by
    obtain ⟨w, ws, rfl, h1, h2⟩ := h
    exact ⟨w, _, rfl, h1, repK_app h2 h'⟩
theorem repK_put {k : Key} {d : D} {v : V} {kvs : List (Key × D)} {ws : List (Key × V)} (hr : rep K mg F d v) (h : repK K mg F kvs ws) : repK K mg F (putKD kvs k d) (putK ws k v) := by
  unfold putKD putK
  rw [repK_any h]
  by_cases q : (kvs.any fun kv => decide (kv.1 = k)) = true
  · rw [if_pos q, if_pos q]
    exact repK_repl hr h
  · rw [if_neg q, if_neg q]
    exact repK_app h ⟨v, [], rfl, hr, rfl⟩
end
section
variable {X : Cx} {W : WX} {a b : Expr} {pos : Pos} {fa fb : En → Res (BV × En)}
theorem ov_dget : OpV X (fun x y H Q => ∃ a v, x = .ref a ∧ DGet H a y (some v) ∧ Q v H) dgetD := by
  intro F H x y d e z Q s h1 h2 h3 k
  cases d with
  | dk kvs =>
    cases hk : keyD e with
    | none =>
      simp only [dgetD, hk] at h3
      cases h3
    | some key =>
      simp only [dgetD, hk] at h3
      obtain ⟨p, ws, rfl, ha, ra⟩ := h1
      rcases repK_get (k := key) ra with ⟨n1, _⟩ | ⟨d, v, e1, e2, e3⟩
      · have h3' : getKD kvs key = some z := h3
        rw [n1] at h3'
        cases h3'
      · have h3' : getKD kvs key = some z := h3
        rw [e1] at h3'
        cases h3'
        exact ⟨p, v, rfl, .inl ⟨ws, key, ha, keyD_rep hk h2, e2.symm⟩, k v e3⟩
  | _ => cases h3
theorem ov_din : OpV X (fun y x H Q => ∃ a o, x = .ref a ∧ DGet H a y o ∧ Q (.bl o.isSome) H) dinD := by
  intro F H x y d e z Q s h1 h2 h3 k
  cases e with
  | dk kvs =>
    cases hk : keyD d with
    | none =>
      simp only [dinD, hk] at h3
      cases h3
    | some key =>
      simp only [dinD, hk] at h3
      cases h3
      obtain ⟨p, ws, rfl, ha, ra⟩ := h2
      refine ⟨p, valV ws key, rfl, .inl ⟨ws, key, ha, keyD_rep hk h1, rfl⟩, ?_⟩
      rcases repK_get (k := key) ra with ⟨n1, n2⟩ | ⟨d, v, e1, e2, e3⟩
      · rw [n2]
        exact k _ (by simp only [n1]; rfl)
      · rw [e2]
        exact k _ (by simp only [e1]; rfl)
  | _ => cases d <;> cases h3
theorem ov_dnin : OpV X (fun y x H Q => ∃ a o, x = .ref a ∧ DGet H a y o ∧ Q (.bl (!o.isSome)) H) dninD := by
  intro F H x y d e z Q s h1 h2 h3 k
  cases e with
  | dk kvs =>
    cases hk : keyD d with
    | none =>
      simp only [dninD, hk] at h3
      cases h3
    | some key =>
      simp only [dninD, hk] at h3
      cases h3
      obtain ⟨p, ws, rfl, ha, ra⟩ := h2
      refine ⟨p, valV ws key, rfl, .inl ⟨ws, key, ha, keyD_rep hk h1, rfl⟩, ?_⟩
      rcases repK_get (k := key) ra with ⟨n1, n2⟩ | ⟨d, v, e1, e2, e3⟩
      · rw [n2]
        exact k _ (by simp only [n1]; rfl)
      · rw [e2]
        exact k _ (by simp only [e1]; rfl)
  | _ => cases d <;> cases h3
theorem de_dget (hu : X.A.units + 1 < cLine) (ha : DB X W a fa) (hb : DB X W b fb) (hs : NoSl b := by exact fun _ _ => rfl) : DE X W (.Subscript a b pos) (eBin dgetD fa fb) := by
  obtain ⟨ta, pa, ea⟩ := ha.ex
  obtain ⟨tb, pb, eb⟩ := hb.ex
  exact ⟨_, pe_dget hu pa pb hs, bin_ent ea eb (opV_hr ov_dget)⟩
/-! comparisons: as values and as tests -/
end
structure DC (X : Cx) (W : WX) (op : CmpOp) (a b : Expr) (f : En → Res (D × En)) : Prop where
  ex : ∃ t, PC X op a b t ∧ Ent X.K X.mg W (rE X.K X.mg) t f
theorem PC.or {X : Cx} {op : CmpOp} {a b : Expr} {t u : TE} (h : PC X op a b t) (k : PC X op a b u) : PC X op a b (fun σ H Q => t σ H Q ∨ u σ H Q) := ⟨fun pins s σ H Q I z => z.elim (h.run pins s σ H Q I) (k.run pins s σ H Q I)⟩
section
variable {X : Cx} {W : WX} {a b : Expr} {pos : Pos} {fa fb : En → Res (BV × En)} {op : CmpOp} {f g : En → Res (D × En)}
theorem DC.alt (h : DC X W op a b f) (k : DC X W op a b g) : DC X W op a b (eAlt f g) := by
  obtain ⟨t, hp, he⟩ := h.ex
  obtain ⟨u, kp, ke⟩ := k.ex
  exact ⟨_, PC.or hp kp, ent_or he ke⟩
theorem DC.de (h : DC X W op a b f) (hm : behindInMarks op b = false := by first | exact nomark _ | rfl) : DE X W (.Compare a [op] [b] pos) f := by
  obtain ⟨t, hp, he⟩ := h.ex
  exact ⟨_, pe_cmp hp hm, he⟩
theorem DC.dt (h : DC X W op a b f) (hm : behindInMarks op b = false := by first | exact nomark _ | rfl) : DT X W (.Compare a [op] [b] pos) (tOfE f) := by
  obtain ⟨t, hp, he⟩ := h.ex
  exact ⟨_, pt_cmp hp hm, tB_ent he⟩
theorem dc_op {rr : R2} {gg : D → D → Option D} (ho : OpR X (compareOp op) rr) (hv : OpV X rr gg) (ha : DB X W a fa) (hb : DB X W b fb) : DC X W op a b (eBin gg fa fb) := by
  obtain ⟨ta, pa, ea⟩ := ha.ex
  obtain ⟨tb, pb, eb⟩ := hb.ex
  refine ⟨tOp rr ta tb, ⟨fun pins s σ H Q I h => ?_⟩, bin_ent ea eb (opV_hr hv)⟩
  exact bin pa pb I h fun v u s2 x y H2 I2 rx ry q => ho pins s2 σ H2 x y v u Q I2 rx ry q
theorem dc_din (hu : X.A.units + 1 < cLine) (ha : DB X W a fa) (hb : DB X W b fb) : DC X W .In a b (eBin dinD fa fb) := by
  obtain ⟨ta, pa, ea⟩ := ha.ex
  obtain ⟨tb, pb, eb⟩ := hb.ex
  exact ⟨_, pc_din hu pa pb, bin_ent ea eb (opV_hr ov_din)⟩
theorem dc_dnin (hu : X.A.units + 1 < cLine) (ha : DB X W a fa) (hb : DB X W b fb) : DC X W .NotIn a b (eBin dninD fa fb) := by
  obtain ⟨ta, pa, ea⟩ := ha.ex
  obtain ⟨tb, pb, eb⟩ := hb.ex
  exact ⟨_, pc_dnotin hu pa pb, bin_ent ea eb (opV_hr ov_dnin)⟩
theorem de_chain {c : Expr} {op' : CmpOp} {rr rr' : R2} {gg gg' : D → D → Option D} {fc : En → Res (BV × En)} (ho : OpR X (compareOp op) rr) (hv : OpV X rr gg) (ho' : OpR X (compareOp op') rr') (hv' : OpV X rr' gg') (ha : DB X W a fa) (hb : DB X W b fb) (hc : DB X W c fc)
    (hm : lastMarks [op, op'] [b, c] = false := by with_unfolding_all rfl) : DE X W (.Compare a [op, op'] [b, c] pos) (eChain gg gg' fa fb fc) := by
  obtain ⟨ta, pa, ea⟩ := ha.ex
  obtain ⟨tb, pb, eb⟩ := hb.ex
  obtain ⟨tc, pc, ec⟩ := hc.ex
  exact ⟨_, pe_chain ho ho' pa pb pc hm, chain_ent ea eb ec hv hv'⟩
theorem dt_chain {c : Expr} {op' : CmpOp} {rr rr' : R2} {gg gg' : D → D → Option D} {fc : En → Res (BV × En)} (ho : OpR X (compareOp op) rr) (hv : OpV X rr gg) (ho' : OpR X (compareOp op') rr') (hv' : OpV X rr' gg') (ha : DB X W a fa) (hb : DB X W b fb) (hc : DB X W c fc)
    (hm : lastMarks [op, op'] [b, c] = false := by with_unfolding_all rfl) : DT X W (.Compare a [op, op'] [b, c] pos) (tOfE (eChain gg gg' fa fb fc)) := by
  obtain ⟨ta, pa, ea⟩ := ha.ex
  obtain ⟨tb, pb, eb⟩ := hb.ex
  obtain ⟨tc, pc, ec⟩ := hc.ex
  exact ⟨_, pt_chain ho ho' pa pb pc hm, tB_ent (chain_ent ea eb ec hv hv')⟩
/-! {} -/
def eDict0 : En → Res (D × En) := fun r => .ok (.dk [], r)
theorem dn_dict0 : DN X W (.Dict [] [] pos) eDict0 := ⟨_, pe_dnewK, fun B F H r σ Q R p pa hpa => p _ F _ (R.newO hpa) (Same.refl F) ⟨pa, rfl, R.fh.free hpa, (R.new_ne hpa).1, (R.new_ne hpa).2, R.loose_new hpa, [], upd_same, rfl⟩⟩
/-! d[k] = e, d in a slot -/
def sDPutD (i : Nat) (fk fv : En → Res (D × En)) : En → SR := fun r => sBind (fv r) fun p => if isMine p.2 i = true then sBind (fk p.2) fun q => atMineS q.2 i fun s => match s.d with
  | .dk kvs => (match keyD q.1 with
    | some k => if kvs.length < 100000 then .nx (q.2.set i (some (s.put (.dk (putKD kvs k p.1))))) else .bad
    | none => .bad)
  | _ => .bad else .bad
theorem ds_dput {y : Str} {i : Nat} {k v : Expr} {q pos' : Pos} {fk fv : En → Res (D × En)} (hu : X.A.units + 1 < cLine) (hk : DE X W k fk) (hv : DE X W v fv) (hN : X.N[i]? = some y := by rfl) (hvv : Vis X.env.scope y := by first | exact Or.inl rfl | exact Or.inr (Or.inl rfl) | exact Or.inr (Or.inr rfl))
    (hyd : (y == ("__debug__" : Str)) = false := by decide) (hcd : (y == ("__classdict__" : Str)) = false := by decide) (hs : swapsWith v (some (.Subscript (.Name y q) k pos')) pos.line X.env = pure false := by rfl) : DS X W (.Assign [.Subscript (.Name y q) k pos'] v pos) (sDPutD i fk fv) := by
  obtain ⟨tk, pk, ek⟩ := hk.ex
  obtain ⟨tv, pv, ev⟩ := hv.ex
  refine ⟨_, ps_dput hu (pe_var hN hvv hyd hcd) pk pv hs, fun B F H r σ Z R p => ev.toS R p fun d r1 v F1 H1 R1 s1 x1 p1 => ?_⟩
  by_cases hm0 : isMine r1 i = true
  · simp only [if_pos hm0] at p1
    obtain ⟨s0, hs0, m0⟩ := isMine_ok hm0
    obtain ⟨pa, e0, _⟩ := R1.mine_at hs0 m0
    refine ⟨_, e0, ek.toS R1 p1 fun kd r2 y F2 H2 R2 s2 x2 p2 => ?_⟩
    rcases atMineS_cases r2 i (fun s => match s.d with
      | .dk kvs => (match keyD kd with
        | some k => if kvs.length < 100000 then .nx (r2.set i (some (s.put (.dk (putKD kvs k d))))) else .bad
        | none => .bad)
      | _ => .bad) with z | ⟨s, hs, m, z⟩
    · simp only [z] at p2
      exact p2.elim
    · simp only [z] at p2
      obtain ⟨pa', e1, ho, hFp⟩ := R2.mine_at hs m
      rw [e0] at e1
      cases e1
      cases hd : s.d with
      | dk kvs =>
        simp only [hd] at p2
        rw [hd] at ho
        cases hkd : keyD kd with
        | some key =>
          simp only [hkd] at p2
          by_cases hc : kvs.length < 100000
          · simp only [if_pos hc] at p2
            obtain ⟨ws, hH, hr⟩ := ho
            have ey : y = kV key := keyD_rep hkd (vw_of R2.fh kd y x2)
            refine ⟨pa, _, rfl, .inl ⟨ws, key, hH, ey, sl100k (by rw [repK_len hr]; exact hc), rfl⟩, ?_⟩
            exact p2 σ F2 _ (R2.put hs m e0 ⟨_, upd_same, repK_put (rep_mono s2 _ _ x1) hr⟩) (Same.refl F2)
          · simp only [if_neg hc] at p2
            exact p2.elim
        | none =>
          simp only [hkd] at p2
          exact p2.elim
      | _ =>
        simp only [hd] at p2
        exact p2.elim
  · simp only [if_neg hm0] at p1
    exact p1.elim
/-! divmod, repr of truths -/
def divmodD : D → D → Option D
  | .int a, .int b => if 0 < b ∧ b < 1073741824 then some (.tup [.int (a / b), .int (a % b)]) else none
  | _, _ => none
theorem de_divmod {p : Pos} (hg : Gl X "divmod") (hm : X.mg "divmod" = none) (hb : bootBuiltins "divmod" = some (.builtin "divmod")) (ha : DB X W a fa) (hb2 : DB X W b fb)
    (hst : starEach [a, b] X.env = (false, eval a X.env) :: starEach [b] X.env := by rfl) (hst2 : starEach [b] X.env = (false, eval b X.env) :: starEach [] X.env := by rfl) : DE X W (.Call (.Name "divmod" p) [a, b] [] pos) (eBin divmodD fa fb) := by
  obtain ⟨t, hp, he⟩ := ha.ex
  obtain ⟨t2, hp2, he2⟩ := hb2.ex
  refine ⟨_, pe_callB call_divmod hg hm hb (pa_cons hp (pa_cons hp2 pa_nil hst2) hst) (by decide) (by decide) hst (by rw [hst2]; rfl), bin_ent (rr := fun v u H Q => ∃ i j, [v, u] = [.int i, .int j] ∧ CDiv i j ∧ ∀ p, H p = none → Q (.ref p) (upd H p (.tup [.int (i / j), .int (i % j)]))) he he2 ?_⟩
  intro B F H r σ v u x y z Q R h1 h2 h3 p
  unfold divmodD at h3
  split at h3
  · split at h3
    · rename_i hc
      cases h3
      cases h1
      cases h2
      refine ⟨_, _, rfl, hc, fun pa hpa => ?_⟩
      have fp := R.fh.free hpa
      exact p _ _ _ (R.newF hpa) (same_new fp) ⟨pa, _, rfl, SqT.of upd_same, _, _, rfl, by simp [rep], _, _, rfl, by simp [rep], rfl⟩
    · cases h3
  · cases h3
def reprB : D → Option D
  | .bl b => some (.str (if b then "True" else "False"))
  | _ => none
theorem call_reprB : CallR X (.builtin "repr") (fun xs H Q => ∃ b, xs = [.bl b] ∧ Q (.str (if b then "True" else "False")) H) := by
  intro pins s σ H xs us Q I r h
  obtain ⟨b, rfl, q⟩ := h
  obtain ⟨u, rfl, rx⟩ := vals1 r
  cases rx
  exact PySem.P.repr_of_bool ⟨.str _, H, I.tok _, ⟨_, rfl⟩, q⟩
theorem uv_reprB : UnV X (fun v H Q => ∃ b, [v] = [.bl b] ∧ Q (.str (if b then "True" else "False")) H) reprB := by
  intro F H v d z Q s h1 h3 k
  unfold reprB at h3
  split at h3
  · cases h3
    cases h1
    exact ⟨_, rfl, k _ rfl⟩
  · cases h3
end
end Dl

set_option Elab.async false
set_option linter.all false
set_option maxRecDepth 100000
set_option maxHeartbeats 4000000
namespace Dl
open PySem L2

/-! ### list(d.items()), dict(pairs) -/
def keyE : Key → D
  | .inl i => .int i
  | .inr x => .str x
def itemsL : D → Option D
  | .dk kvs => some (.lst (kvs.map fun kv => .tup [keyE kv.1, kv.2]))
  | _ => none
def pairsOf : List D → Option (List (Key × D))
  | [] => some []
  | .tup [k, v] :: ds => (keyD k).bind fun k => (pairsOf ds).map ((k, v) :: ·)
  | _ => none
def mergeKD (kvs more : List (Key × D)) : List (Key × D) := more.foldl (fun acc kv => putKD acc kv.1 kv.2) kvs
def dictP : D → Option D
  | .lst ds => (pairsOf ds).map fun ps => .dk (mergeKD [] ps)
  | _ => none
def rItemsR : V → Hp → VK → Prop := fun x H Q => ∃ (d : Addr) (kvs : List (Key × V)), x = .ref d ∧ Rd H d (.dK kvs) ∧
  ∀ (H' : Hp) (p : Addr) (ts : List Addr), (∀ b o, H b = some o → H' b = some o) → H p = none → (∀ t ∈ ts, H t = none) → p ∉ ts → H' p = some (.lst (ts.map V.ref)) → Paired (fun (t : Addr) (q : Key × V) => H' t = some (.tup [kV q.1, q.2])) ts kvs → Q (.ref p) H'
section
variable {X : Cx} {W : WX} {e : Expr} {te : TE} {p apos cpos pos : Pos} {fa : En → Res (BV × En)}
theorem pe_listItemsR (hc : X.calm = true) (he : PE X e te) (hg : Gl X "list") (hm : X.mg "list" = none) (hv : bootBuiltins "list" = some (.type "list")) (hbase : attributeBase e "items" X.env (eval e X.env) = eval e X.env := by rfl) (hline : (apos.endLine == cpos.line) = true := by rfl)
    (hs : starEach [.Call (.Attribute e "items" apos) [] [] cpos] X.env = (false, eval (.Call (.Attribute e "items" apos) [] [] cpos) X.env) :: starEach [] X.env := by rfl) :
    PE X (.Call (.Name "list" p) [.Call (.Attribute e "items" apos) [] [] cpos] [] pos) (tUn rItemsR te) := by
  refine ⟨fun pins s σ H Q I hq => ?_⟩
  refine wpAny_Call_Name_kw (ld_blt I hg hm hv ?_)
  refine PyProof.Rows.callWith_type1 ?_ hs rfl
  rw [hs]
  show wpAny _ _ (spliced ((false, eval (.Call (.Attribute e "items" apos) [] [] cpos) X.env) :: backTo pos (starEach [] X.env))) _ _ s
  refine Calls.spliced_cons ?_
  refine wpAny_Call_method (T := "dict") (id := "dict.items") hbase rfl hline F.plainAttrs_dict F.slot_dict_items F.type_dict_items (thn (he.run pins s σ H _ I hq) fun u s1 ⟨x, H1, I1, rx, d, kvs, ex, hd, q⟩ => ?_)
  subst ex
  obtain rfl : u = Value.ref d := rx
  obtain ⟨hz, hs0, vs, kv, hdo⟩ := dk_rd I1.hok hd
  obtain ⟨ep, hat⟩ := hdo.dictAt
  have lk : kvs.length = vs.length := Paired.length kv
  have I2 : Inv X pins σ H1 { s1 with heap := s1.heap.push { cls := .type "dict_items", data := .fields #[.ref d] } } := I1.kept (t' := s1.toks) fun b ob q => Heap.get?_push_of_some _ q
  refine ⟨hdo.typeIs, hdo.mapOf.noDict, ?_⟩
  show wpAny _ _ (callWith cpos (.builtin "dict.items") [.ref d] [] []) _ X.xe s1
  refine method_meetsIn F.slot_dict_items F.entry_dict_items rfl (PySem.evalArgs_none ⟨rfl, hdo.typeIs, F.args_dict_items_1 _, _, meets_dict_items (mixKind X.prog X.w) d hs0, ⟨vs, hdo⟩, ?_⟩)
  refine Calls.spliced_nil ?_
  refine PySem.W.kdx_call (knd := mixKind X.prog X.w) (kvs := vs) (ep := ep) (I1.ok.hd hc) ⟨_, Heap.get?_push_size _ rfl, rfl, rfl⟩ (hat.push _) (by omega) fun h' tk acc c as hk hS hl hG hacc => ?_
  obtain ⟨H', k1, k2, k3, k4, k5, k6, J⟩ := LiI.items_laid (tk := tk) I2 hz kv hk hS hl hG hacc
  exact ⟨.ref _, H', J, rfl, q H' _ as k1 k2 k3 k4 k5 k6⟩
theorem keyE_rep {K : PySem.W.Frag} {mg : Str → Option Value} {F : Hp} (k : Key) : rep K mg F (keyE k) (kV k) := by
  cases k <;> simp [keyE, kV, rep]
theorem items_rep {K : PySem.W.Frag} {mg : Str → Option Value} {F F' : Hp} (s : Same F F') : ∀ {kvs : List (Key × D)} {ws : List (Key × V)} {ts : List Addr}, repK K mg F kvs ws → Paired (fun (t : Addr) (q : Key × V) => F' t = some (.tup [kV q.1, q.2])) ts ws →
    repL K mg F' (kvs.map fun kv => .tup [keyE kv.1, kv.2]) (ts.map V.ref)
  | [], _, _, h, hp => by
    cases h
    cases hp
    rfl
  | (k, d) :: kvs, _, _, h, hp => by
    obtain ⟨w, ws, rfl, h1, h2⟩ := h
    cases hp with
    | cons a b =>
      rename_i t ts
      exact ⟨.ref t, ts.map V.ref, rfl, ⟨t, _, rfl, SqT.of a, _, _, rfl, keyE_rep k, _, _, rfl, rep_mono s _ _ h1, rfl⟩, items_rep s h2 b⟩
theorem paired_mem {α β : Type} {P : α → β → Prop} : ∀ {xs : List α} {ys : List β}, Paired P xs ys → ∀ x ∈ xs, ∃ y, P x y
  | _, _, .nil, _, h => by cases h
  | _, _, .cons a b, x, h => by
    rcases List.mem_cons.mp h with rfl | h
    · exact ⟨_, a⟩
    · exact paired_mem b x h
theorem paired_imp {α β : Type} {P Q : α → β → Prop} : ∀ {xs : List α} {ys : List β}, Paired P xs ys → (∀ x ∈ xs, ∀ y, P x y → Q x y) → Paired Q xs ys
  | _, _, .nil, _ => .nil
  | _, _, .cons a b, h => .cons (h _ (by simp) _ a) (paired_imp b fun x hx => h x (List.mem_cons_of_mem _ hx))
theorem dn_items (hc : X.calm = true) (he : DB X W e fa) (hg : Gl X "list") (hm : X.mg "list" = none) (hv : bootBuiltins "list" = some (.type "list")) (hbase : attributeBase e "items" X.env (eval e X.env) = eval e X.env := by rfl) (hline : (apos.endLine == cpos.line) = true := by rfl)
    (hs : starEach [.Call (.Attribute e "items" apos) [] [] cpos] X.env = (false, eval (.Call (.Attribute e "items" apos) [] [] cpos) X.env) :: starEach [] X.env := by rfl) :
    DN X W (.Call (.Name "list" p) [.Call (.Attribute e "items" apos) [] [] cpos] [] pos) (eUn itemsL fa) := by
  obtain ⟨t, hp, hh⟩ := he.ex
  refine ⟨_, pe_listItemsR hc hp hg hm hv hbase hline hs, un_ent hh ?_⟩
  intro B F H r σ v x z Q R h1 h3 p
  cases x with
  | dk kvs =>
    cases h3
    obtain ⟨a, ws, rfl, ha, ra⟩ := h1
    refine ⟨a, ws, rfl, ha, fun H' pa ts k1 k2 k3 k4 k5 k6 => ?_⟩
    classical
    let F' : Hp := fun b => if b ∈ ts then H' b else F b
    have fF : ∀ b, b ∉ ts → F' b = F b := fun b hb => if_neg hb
    have fT : ∀ b, b ∈ ts → F' b = H' b := fun b hb => if_pos hb
    have s1 : Same F F' := fun b o hb => by
      rw [fF b fun z => by rw [R.fh.free (k3 b z)] at hb; cases hb]
      exact hb
    have s2 : Same F' H' := fun b o hb => by
      by_cases q : b ∈ ts
      · rw [fT b q] at hb
        exact hb
      · rw [fF b q] at hb
        exact k1 _ _ (R.fh _ _ hb)
    have R2 : Rel X.K X.mg B F' H' r σ := R.grow k1 s1 s2 fun b h1 h2 => by
      rw [fF b fun z => h2 (k3 b z)]
      exact h1
    refine p _ F' H' R2 s1 ⟨pa, rfl, ?_, (R.new_ne k2).1, (R.new_ne k2).2, R.loose_new k2, _, k5, ?_⟩
    · rw [fF pa k4]
      exact R.fh.free k2
    · exact items_rep s1 ra (paired_imp k6 fun t ht q hq => by rw [fT t ht]; exact hq)
  | _ => cases h3
theorem pairs_rep {K : PySem.W.Frag} {mg : Str → Option Value} {F H : Hp} (s : Same F H) : ∀ {ds : List D} {xs : List V} {ps : List (Key × D)}, repL K mg F ds xs → pairsOf ds = some ps →
    ∃ (as : List Addr) (ws : List (Key × V)), xs = as.map V.ref ∧ Paired (fun p kv => SqT K H p [kV kv.1, kv.2]) as ws ∧ repK K mg F ps ws
  | [], _, _, h, e => by
    cases h
    cases e
    exact ⟨[], [], rfl, .nil, rfl⟩
  | d :: ds, _, ps, h, e => by
    obtain ⟨w, ws, rfl, h1, h2⟩ := h
    unfold pairsOf at e
    split at e
    · rename_i heq
      cases heq
    · rename_i k v ds' heq
      cases heq
      cases hk : keyD k with
      | none =>
        rw [hk] at e
        cases e
      | some key =>
        rw [hk] at e
        cases hq : pairsOf ds with
        | none =>
          rw [hq] at e
          cases e
        | some qs =>
          rw [hq] at e
          cases e
          obtain ⟨as, wz, rfl, hp, hr⟩ := pairs_rep s h2 hq
          obtain ⟨a, xs, rfl, ha, k1, xs1, rfl, rk, v1, xs2, rfl, rv, hn⟩ := h1
          cases (show xs2 = [] from hn)
          have ek : k1 = kV key := keyD_rep (mg := mg) hk (vw_of (Same.refl F) _ _ rk)
          subst ek
          exact ⟨a :: as, (key, v1) :: wz, rfl, .cons (sqT_mono s ha) hp, v1, wz, rfl, rv, hr⟩
    · cases e
theorem repK_merge {K : PySem.W.Frag} {mg : Str → Option Value} {F : Hp} : ∀ {ms : List (Key × D)} {ws : List (Key × V)} {kvs : List (Key × D)} {vs : List (Key × V)}, repK K mg F ms ws → repK K mg F kvs vs → repK K mg F (mergeKD kvs ms) (mergeK vs ws)
  | [], _, _, _, h, h' => by
    cases h
    exact h'
  | (k, d) :: ms, _, kvs, vs, h, h' => by
    obtain ⟨w, ws, rfl, h1, h2⟩ := h
    exact repK_merge (kvs := putKD kvs k d) (vs := putK vs k w) h2 (repK_put h1 h')
theorem un_dictP : UnN X (fun v H Q => ∃ (a : Addr) (ps : List Addr) (kvs : List (Key × V)), [v] = [.ref a] ∧ SqL X.K H a (ps.map V.ref) ∧ Paired (fun p kv => SqT X.K H p [kV kv.1, kv.2]) ps kvs ∧ ∀ p, H p = none → Q (.ref p) (upd H p (.dK (mergeK [] kvs)))) dictP := by
  intro F H v d z Q s h1 h3 k
  cases d with
  | lst ds =>
    unfold dictP at h3
    cases hq : pairsOf ds with
    | none =>
      simp only [hq] at h3
      cases h3
    | some qs =>
      simp only [hq] at h3
      cases h3
      obtain ⟨a, xs, rfl, ha, ra⟩ := h1
      obtain ⟨as, ws, rfl, hp, hr⟩ := pairs_rep s ra hq
      exact ⟨a, as, ws, rfl, SqL.of ha, hp, fun p hp' => k p _ hp' ⟨_, upd_same, repK_merge hr rfl⟩⟩
  | _ => cases h3
end
/-! ### x = [..] on one line -/
section
variable {X : Cx} {W : WX} {pos spos py : Pos} {y : Str} {i : Nat} {elt tg iter : Expr} {ifs : List Expr} {scope : Scope} {own : List (Str × Nat)} {s : En → Res (List D × En)} {g : D → En → Res En} {t : En → Res (Bool × En)} {f : En → Res (D × En)}
theorem ent_nE {K : PySem.W.Frag} {mg : Str → Option Value} {tt : TE} {h : En → Res (D × En)} (he : Ent K mg W (rN K mg) tt h) : Ent K mg W (rE K mg) tt h := by
  intro B F H r σ Q R p
  refine he B F H r σ Q R ?_
  cases q : h r with
  | ok a =>
    obtain ⟨d, r'⟩ := a
    rw [q] at p
    rintro b F' H' R' s ⟨pa, rfl, h1, h2, h3, h4, h5⟩
    exact p _ _ H' (R'.freeze h1 h2 h4) (s.trans (frzAt_same h1)) (rep_frz h1 d h5)
  | er c fs r' =>
    rw [q] at p
    exact p
  | bad =>
    rw [q] at p
    exact p
theorem ds_setLc (hc : X.calm = true) (hN : X.N.Nodup) (hi : DI X W tg iter s) (ok : BlkOk X.N X.env.scope scope own)
    (hg : ∀ (s : Shared) (H : Hp) (C : Addr) (cl : List (Str × Addr)) (fp : List Addr), DG (X.blk s H scope (compEnvC scope cl C X.env) fp) W0 tg (own.map (·.2)) g)
    (ht : ∀ (s : Shared) (H : Hp) (C : Addr) (cl : List (Str × Addr)) (fp : List Addr), DTs (X.blk s H scope (compEnvC scope cl C X.env) fp) W0 ifs t)
    (he : ∀ (s : Shared) (H : Hp) (C : Addr) (cl : List (Str × Addr)) (fp : List Addr), DE (X.blk s H scope (compEnvC scope cl C X.env) fp) W0 elt f)
    (hsw : swapsWith (.ListComp elt [⟨tg, iter, ifs, 0⟩] scope pos) (some (.Name y py)) spos.line X.env = pure true) (hy : X.N[i]? = some y := by rfl) (hyl : X.env.scope.names.lookup y = some .local := by rfl) (hs : ∀ x, foldedSetIterable iter X.env x = pure x := by intro _; rfl) :
    DS X W (.Assign [.Name y py] (.ListComp elt [⟨tg, iter, ifs, 0⟩] scope pos) spos) (sSet i (eLc s g t f (own.map (·.2)))) := by
  obtain ⟨ti, pi, ei⟩ := hi.ex
  refine ⟨_, ps_setLc (g := tOfG X.K X.mg W0 (own.map (·.2)) g) (tt := tOf X.K X.mg W0 rT t) (te := tOf X.K X.mg W0 (rE X.K X.mg) f) hc hN hy hyl hsw pi ok (fun a b c d e => (hg a b c d e).can) (fun a b c d e => (ht a b c d e).can) (fun a b c d e => (he a b c d e).can) hs, fun B F H r σ Z R p => ?_⟩
  exact (ent_nE (lc_ent ei)).toS R p fun d r' v F' H' R' s x q => q _ F' H' (R'.setF x) (Same.refl F')
theorem ds_ownLc (hc : X.calm = true) (hN : X.N.Nodup) (hi : DI X W tg iter s) (ok : BlkOk X.N X.env.scope scope own)
    (hg : ∀ (s : Shared) (H : Hp) (C : Addr) (cl : List (Str × Addr)) (fp : List Addr), DG (X.blk s H scope (compEnvC scope cl C X.env) fp) W0 tg (own.map (·.2)) g)
    (ht : ∀ (s : Shared) (H : Hp) (C : Addr) (cl : List (Str × Addr)) (fp : List Addr), DTs (X.blk s H scope (compEnvC scope cl C X.env) fp) W0 ifs t)
    (he : ∀ (s : Shared) (H : Hp) (C : Addr) (cl : List (Str × Addr)) (fp : List Addr), DE (X.blk s H scope (compEnvC scope cl C X.env) fp) W0 elt f)
    (hsw : swapsWith (.ListComp elt [⟨tg, iter, ifs, 0⟩] scope pos) (some (.Name y py)) spos.line X.env = pure true) (hy : X.N[i]? = some y := by rfl) (hyl : X.env.scope.names.lookup y = some .local := by rfl) (hs : ∀ x, foldedSetIterable iter X.env x = pure x := by intro _; rfl) :
    DS X W (.Assign [.Name y py] (.ListComp elt [⟨tg, iter, ifs, 0⟩] scope pos) spos) (sOwn i (eLc s g t f (own.map (·.2)))) := by
  obtain ⟨ti, pi, ei⟩ := hi.ex
  refine ⟨_, ps_setLc (g := tOfG X.K X.mg W0 (own.map (·.2)) g) (tt := tOf X.K X.mg W0 rT t) (te := tOf X.K X.mg W0 (rE X.K X.mg) f) hc hN hy hyl hsw pi ok (fun a b c d e => (hg a b c d e).can) (fun a b c d e => (ht a b c d e).can) (fun a b c d e => (he a b c d e).can) hs, fun B F H r σ Z R p => ?_⟩
  refine (lc_ent ei).toS R p fun d r' v F' H' R' s x q => ?_
  obtain ⟨pa, rfl, h1, h2, h3, h4, h5⟩ := x
  exact q _ F' H' (R'.setO h1 h2 h3 h4 h5) (Same.refl F')
end
end Dl

set_option Elab.async false
set_option linter.all false
set_option maxRecDepth 100000
set_option maxHeartbeats 4000000
namespace Dl
open PySem L2

/-! ### own == and != -/
section
variable {prog : Program} {w : World} {A : Around} {E : Value → Shared → Prop} {s : Shared} {K : PySem.W.Frag} {x C L f : Addr} {h₀ : Heap} {m : Str → Option Value} {ox : Obj} {od : Option Obj} {b tb : Value}
theorem call_objNe {Q : Value → Shared → Prop} (hu : A.units + 1 < cLine) (X : K.In s.heap) (I : PySem.W.InstAt s.heap x ox C od) (hm : PySem.W.mroIn K C (.type "object") = some true) (hs : PySem.W.findIn K (.ref C) "__eq__" = some (some (.ref f))) (hf : PySem.W.isFn K (.ref f) = true)
    (h : wpAny (model prog w) A.in1 (call (.ref f) [.ref x, b]) (fun v s' => ∃ c, v = .bool c ∧ Q (.bool (!c)) s') E s) : wpAny (model prog w) A (call (.builtin "object.__ne__") [.ref x, b]) Q E s := by
  obtain ⟨hh, g, dr, t, os⟩ := s
  refine wpAny_call (codeAny_call_builtin PySem.F.cmp_object.ne.plain PySem.F.cmpEntry_ne (PySem.W.check_slot PySem.F.cmpKind_ne PySem.F.cmpSplit_ne (I.type.andThen (PySem.W.looks_mroIn X hm)) (PySem.F.cmpArgs_ne _ _) ?_))
  unfold Builtin.«object.__ne__»
  repeat (first
    | with_reducible refine wpAny_cRoomFor hu ?_
    | (refine wpAny_bind (m := callSpecialIfBound? (.ref x) (Str.ofString "__eq__") [b])
        (PySem.W.ifBound_K X I hs hf (wpAny_mono h (fun r s' hr => by
          obtain ⟨c, rfl, hq⟩ := hr
          repeat (first | exact hq | exact wpAny_pure hq | exact wpAny_truthy_bool hq | (refine wpAny_bind (m := truthy (.bool _)) (wpAny_truthy_bool ?_)) | wp_step)) fun _ _ e => e)))
    | wp_step)
theorem ne_own {Q : Value → Shared → Prop} (hu : A.units + 1 < cLine) (F : PyProof.Rows.Fr h₀ L s.heap m) (X₀ : K.In h₀) (I : PySem.W.InstAt s.heap x ox C od) (hb : PySem.W.Looks (model prog w) s.heap (typeOf b) tb) (hn : PySem.W.notFirst K C tb = true)
    (hne : PySem.W.findIn K (.ref C) "__ne__" = some (some (.builtin "object.__ne__"))) (hm : PySem.W.mroIn K C (.type "object") = some true) (hs : PySem.W.findIn K (.ref C) "__eq__" = some (some (.ref f))) (hf : PySem.W.isFn K (.ref f) = true)
    (h : wpAny (model prog w) A.in1 (call (.ref f) [.ref x, b]) (fun v s' => ∃ c, v = .bool c ∧ Q (.bool (!c)) s') E s) : wpAny (model prog w) A (richCompare .NotEq (.ref x) b) Q E s := by
  have X := X₀.keeps F.keep
  have one : wpAny (model prog w) A (tryCompare (.ref x) "__ne__" b) (fun r s' => ∃ v, r = some v ∧ Q v s') E s := by
    unfold tryCompare
    refine wpAny_bind ?_
    simp only [callSpecialIfBound?, bindSpecialIfBound?]
    refine wpAny_holding (wpAny_bind (wpAny_bind (wpAny_bind (I.type.here ((PySem.W.looks_findIn X hne).here ?_)))))
    have fin : wpAny (model prog w) A (call (.builtin "object.__ne__") ([.ref x] ++ [b]) >>= fun v => pure (some v)) (fun r s' => wpAny (model prog w) A (match r with
        | some .notImplemented | none => pure none
        | some v => pure (some v)) (fun r s' => ∃ v, r = some v ∧ Q v s') E s') E s := by
      refine wpAny_bind (call_objNe (Q := fun v s' => wpAny (model prog w) A (pure (some v)) _ E s') hu X I hm hs hf (wpAny_mono h (fun v s' hv => ?_) fun _ _ e => e))
      obtain ⟨c, rfl, hq⟩ := hv
      exact ⟨c, rfl, wpAny_pure (wpAny_pure ⟨_, rfl, hq⟩)⟩
    have hbind : bindSpecial (.builtin "object.__ne__") (.ref x) = pure (.builtin "object.__ne__", [.ref x]) := PySem.F.cmp_object.ne.bind _
    refine wpAny_bind (wpAny_askSetting (wpAny_ite ?_))
    split
    · rw [hbind]
      exact wpAny_bind (wpAny_pure (wpAny_pure fin))
    · rw [hbind]
      exact wpAny_tryCatch (wpAny_bind (wpAny_pure (wpAny_pure fin)))
  unfold richCompare
  simp only [PySem.oneThing_ref]
  refine wpAny_holding (wpAny_bind (wpAny_cRoomFor (Nat.lt_of_succ_lt hu) ?_))
  refine wpAny_bind (I.type.here (wpAny_bind (hb.here ?_)))
  split
  · rename_i q
    have e : PySem.W.subIn K tb (.ref C) = some false := by
      rcases Bool.or_eq_true_iff.mp hn with e | e
      · rw [beq_iff_eq.mp e] at q; simp at q
      · exact beq_iff_eq.mp e
    refine wpAny_bind ((PySem.W.looks_subIn X e).here ?_)
    simp only [Bool.false_eq_true, if_false]
    refine wpAny_bind (wpAny_mono one (fun r s' z => ?_) fun _ _ e => e)
    obtain ⟨v, rfl, hq⟩ := z
    exact wpAny_pure hq
  · refine wpAny_bind (wpAny_pure ?_)
    simp only [Bool.false_eq_true, if_false]
    refine wpAny_bind (wpAny_mono one (fun r s' z => ?_) fun _ _ e => e)
    obtain ⟨v, rfl, hq⟩ := z
    exact wpAny_pure hq
end

/-! ### operators of own classes -/
def mapR (g : D → Option D) : Res D → Res D
  | .ok d => match g d with
    | some z => .ok z
    | none => .bad
  | .er c fs r => .er c fs r
  | .bad => .bad
def toB : D → Option D
  | .bl b => some (.bl b)
  | _ => none
def toNB : D → Option D
  | .bl b => some (.bl (!b))
  | _ => none
/-- the instance is behind -/
def eOwnR (c : Str) (g : D → Option D) (den : List D → Res D) (fa fb : En → Res (D × En)) : En → Res (D × En) := fun r => (fa r).bind fun p => (fb p.2).bind fun q => match q.1 with
  | .ins c' fs => if c' = c then callR (mapR g (den [.ins c' fs, p.1])) q.2 else .bad
  | _ => .bad
/-- both are instances of the class -/
def eOwnL (c : Str) (g : D → Option D) (den : List D → Res D) (fa fb : En → Res (D × En)) : En → Res (D × En) := fun r => (fa r).bind fun p => (fb p.2).bind fun q => match p.1, q.1 with
  | .ins c' fs, .ins c2 gs => if c' = c ∧ c2 = c then callR (mapR g (den [.ins c' fs, .ins c2 gs])) q.2 else .bad
  | _, _ => .bad
section
variable {K : PySem.W.Frag} {mg : Str → Option Value} {W : WX} {B : Bg} {F H : Hp} {r : En} {σ : L2.St}
theorem callM_po {g : D → Option D} {P : V → Hp → Prop} {den0 : List D → Res D} {ds dds : List D} {vs dvs : List V} {Q : VK} (R : Rel K mg B F H r σ) (h : repL K mg F ds vs) (hd : ∀ F, repL K mg F dds dvs) (hP : ∀ d z v F' H', g d = some z → rep K mg F' d v → (∀ w, rep K mg F' z w → Q w H') → P v H')
    (p : Po K mg W B F σ (rE K mg) Q (callR (mapR g (den0 (ds ++ dds))) r)) : spD K mg den0 (vs ++ dvs) H P (WE W σ) := by
  refine ⟨F, ds ++ dds, R.fh, repL_app h (hd F), ?_⟩
  cases q : den0 (ds ++ dds) with
  | ok d =>
    rw [q] at p
    cases z : g d with
    | some z' =>
      simp only [mapR, z] at p
      exact fun v F' H' g x => hP d z' v F' H' z x fun w hw => p w F' H' (R.growN g) g.f hw
    | none =>
      simp only [mapR, z] at p
      exact p.elim
  | er c fs r' =>
    rw [q] at p
    exact fun C od F' H' m g x => p C od σ F' H' m (R.growN g) g.f x
  | bad =>
    rw [q] at p
    exact p.elim
end
section
variable {X : Cx} {W : WX} {k j : Nat} {f C : Addr} {c : Str} {a b : Expr} {pos : Pos} {fa fb : En → Res (D × En)} {den : List D → Res D}
theorem inst_of {X : Cx} {pins : List (Addr × Obj)} {σ : L2.St} {H : Hp} {s : Shared} {a C dx : Addr} {fs : List (Str × V)} (I : Inv X pins σ H s) (e : H a = some (.ins C dx fs)) : ∃ ox od, PySem.W.InstAt s.heap a ox C od := by
  obtain ⟨mA, O, _, _, _, _⟩ := ins_get I.hok e
  obtain ⟨od, J, _⟩ := O.look
  exact ⟨_, _, J⟩
theorem rep_bl {F : Hp} {b : Bool} {v : V} {K : PySem.W.Frag} {mg : Str → Option Value} (h : rep K mg F (.bl b) v) : v = .bl b := h
theorem hP_B {Q : VK} : ∀ (d z : D) (v : V) (F' H' : Hp), toB d = some z → rep X.K X.mg F' d v → (∀ w, rep X.K X.mg F' z w → Q w H') → ∃ b, v = .bl b ∧ Q (.bl b) H' := by
  intro d z v F' H' e h q
  cases d with
  | bl b => cases e; exact ⟨b, rep_bl h, q _ rfl⟩
  | _ => cases e
theorem hP_NB {Q : VK} : ∀ (d z : D) (v : V) (F' H' : Hp), toNB d = some z → rep X.K X.mg F' d v → (∀ w, rep X.K X.mg F' z w → Q w H') → ∃ b, v = .bl b ∧ Q (.bl (!b)) H' := by
  intro d z v F' H' e h q
  cases d with
  | bl b => cases e; exact ⟨b, rep_bl h, q _ rfl⟩
  | _ => cases e
theorem truthyB {u : Value} {v : V} {b : Bool} (r : RelV v u) (e : v = .bl b) : u = .bool b := by
  subst e
  exact r
theorem dc_inO (F : CalA X.prog X.w X.K X.mg X.base k f den) (tk : Takes X W) (hr : Room j X.A) (hk : k ≤ j) (hc : X.mg c = some (.ref C)) (hm : Meth X.K C "__contains__" f) (ha : DE X W a fa) (hb : DE X W b fb) : DC X W .In a b (eOwnR c toB den fa fb) := by
  obtain ⟨fd, ps, ds, dvs, dds, den0, G, hbi, hd, hdd, rfl⟩ := F.ex
  obtain ⟨ta, pa, ea⟩ := ha.ex
  obtain ⟨tb, pb, eb⟩ := hb.ex
  refine ⟨fun σ H Q => ta σ H fun x H1 => tb σ H1 fun y H2 => ∃ a dx fs, y = .ref a ∧ H2 a = some (.ins C dx fs) ∧ spD X.K X.mg den0 ([y, x] ++ dvs) H2 (fun v H3 => ∃ b, v = .bl b ∧ Q (.bl b) H3) (WE W σ), ⟨fun pins s σ H Q I h => ?_⟩, fun B F H r σ Q R p => ?_⟩
  · refine bin (f := fun v u => compareOp .In v u) pa pb I h fun v u s2 x y H2 I2 rx ry q => ?_
    obtain ⟨a, dx, fs, rfl, e, q⟩ := q
    cases (show u = Value.ref a from ry)
    obtain ⟨ox, od, J⟩ := inst_of I2 e
    obtain ⟨m, hF⟩ := I2.fr
    refine PySem.W.in_K hF I2.ok.mod.kin J hm.at_ hm.fn (wpAny_mono (run_fnSD (us := [.ref a, v]) (vs := [.ref a, x]) G (hr.mono hk) hbi hd (passAt tk σ) I2 (.cons rfl (.cons rx .nil)) q) (fun w s' z => ?_) fun _ _ e => e)
    obtain ⟨v', H', I', r', b, e', qb⟩ := z
    rw [truthyB r' e']
    exact wpAny_truthy_bool ⟨.bl _, H', I', rfl, qb⟩
  · refine ea.to R p fun d r1 v F1 H1 R1 s1 x1 p1 => eb.to R1 p1 fun d2 r2 u F2 H2 R2 s2 x2 p2 => ?_
    cases d2 with
    | ins c' fs =>
      simp only at p2
      by_cases hcc : c' = c
      · rw [if_pos hcc] at p2
        subst hcc
        obtain ⟨a, C', dx, ws, rfl, hC, hF, hrf⟩ := id x2
        rw [hc] at hC
        cases hC
        exact ⟨a, dx, ws, rfl, R2.fh _ _ hF, callM_po (ds := [_, _]) (vs := [_, _]) R2 ⟨_, _, rfl, x2, _, _, rfl, rep_mono s2 _ _ x1, rfl⟩ hdd hP_B p2⟩
      · rw [if_neg hcc] at p2
        exact p2.elim
    | _ => exact p2.elim
theorem dc_ninO (F : CalA X.prog X.w X.K X.mg X.base k f den) (tk : Takes X W) (hr : Room j X.A) (hk : k ≤ j) (hc : X.mg c = some (.ref C)) (hm : Meth X.K C "__contains__" f) (ha : DE X W a fa) (hb : DE X W b fb) : DC X W .NotIn a b (eOwnR c toNB den fa fb) := by
  obtain ⟨fd, ps, ds, dvs, dds, den0, G, hbi, hd, hdd, rfl⟩ := F.ex
  obtain ⟨ta, pa, ea⟩ := ha.ex
  obtain ⟨tb, pb, eb⟩ := hb.ex
  refine ⟨fun σ H Q => ta σ H fun x H1 => tb σ H1 fun y H2 => ∃ a dx fs, y = .ref a ∧ H2 a = some (.ins C dx fs) ∧ spD X.K X.mg den0 ([y, x] ++ dvs) H2 (fun v H3 => ∃ b, v = .bl b ∧ Q (.bl (!b)) H3) (WE W σ), ⟨fun pins s σ H Q I h => ?_⟩, fun B F H r σ Q R p => ?_⟩
  · refine bin (f := fun v u => compareOp .NotIn v u) pa pb I h fun v u s2 x y H2 I2 rx ry q => ?_
    obtain ⟨a, dx, fs, rfl, e, q⟩ := q
    cases (show u = Value.ref a from ry)
    obtain ⟨ox, od, J⟩ := inst_of I2 e
    obtain ⟨m, hF⟩ := I2.fr
    refine PySem.W.notIn_K hF I2.ok.mod.kin J hm.at_ hm.fn (wpAny_mono (run_fnSD (us := [.ref a, v]) (vs := [.ref a, x]) G (hr.mono hk) hbi hd (passAt tk σ) I2 (.cons rfl (.cons rx .nil)) q) (fun w s' z => ?_) fun _ _ e => e)
    obtain ⟨v', H', I', r', b, e', qb⟩ := z
    rw [truthyB r' e']
    exact wpAny_truthy_bool ⟨.bl _, H', I', rfl, qb⟩
  · refine ea.to R p fun d r1 v F1 H1 R1 s1 x1 p1 => eb.to R1 p1 fun d2 r2 u F2 H2 R2 s2 x2 p2 => ?_
    cases d2 with
    | ins c' fs =>
      simp only at p2
      by_cases hcc : c' = c
      · rw [if_pos hcc] at p2
        subst hcc
        obtain ⟨a, C', dx, ws, rfl, hC, hF, hrf⟩ := id x2
        rw [hc] at hC
        cases hC
        exact ⟨a, dx, ws, rfl, R2.fh _ _ hF, callM_po (ds := [_, _]) (vs := [_, _]) R2 ⟨_, _, rfl, x2, _, _, rfl, rep_mono s2 _ _ x1, rfl⟩ hdd hP_NB p2⟩
      · rw [if_neg hcc] at p2
        exact p2.elim
    | _ => exact p2.elim
theorem ownL_ent {P : VK → V → Hp → Prop} {g : D → Option D} {den0 : List D → Res D} {dds : List D} {dvs : List V} {ta tb : TE} (hc : X.mg c = some (.ref C)) (hdd : ∀ F, repL X.K X.mg F dds dvs) (hP : ∀ Q d z v F' H', g d = some z → rep X.K X.mg F' d v → (∀ w, rep X.K X.mg F' z w → Q w H') → P Q v H') (ea : Ent X.K X.mg W (rE X.K X.mg) ta fa) (eb : Ent X.K X.mg W (rE X.K X.mg) tb fb) :
    Ent X.K X.mg W (rE X.K X.mg) (fun σ H Q => ta σ H fun x H1 => tb σ H1 fun y H2 => ∃ a dx fs b dy gs, x = .ref a ∧ H2 a = some (.ins C dx fs) ∧ y = .ref b ∧ H2 b = some (.ins C dy gs) ∧ spD X.K X.mg den0 ([x, y] ++ dvs) H2 (P Q) (WE W σ)) (eOwnL c g (fun as => den0 (as ++ dds)) fa fb) := by
  intro B F H r σ Q R p
  refine ea.to R p fun d r1 v F1 H1 R1 s1 x1 p1 => eb.to R1 p1 fun d2 r2 u F2 H2 R2 s2 x2 p2 => ?_
  have y1 := rep_mono s2 _ _ x1
  cases d with
  | ins c1 gs =>
    cases d2 with
    | ins c' fs =>
      simp only at p2
      by_cases hcc : c1 = c ∧ c' = c
      · rw [if_pos hcc] at p2
        obtain ⟨rfl, rfl⟩ := hcc
        obtain ⟨a, C', dx, ws, rfl, hC, hF, hrf⟩ := id x2
        obtain ⟨a1, C1, dx1, ws1, rfl, hC1, hF1, hrf1⟩ := id y1
        rw [hc] at hC hC1
        cases hC
        cases hC1
        exact ⟨a1, dx1, ws1, a, dx, ws, rfl, R2.fh _ _ hF1, rfl, R2.fh _ _ hF, callM_po (ds := [_, _]) (vs := [_, _]) R2 ⟨_, _, rfl, y1, _, _, rfl, x2, rfl⟩ hdd (hP Q) p2⟩
      · rw [if_neg hcc] at p2
        exact p2.elim
    | _ => exact p2.elim
  | _ => exact p2.elim
theorem de_opO {op : Operator} (F : CalA X.prog X.w X.K X.mg X.base k f den) (tk : Takes X W) (hr : Room j X.A) (hk : k ≤ j) (hc : X.mg c = some (.ref C)) (hsf : PySem.W.selfFirst X.K C = true) (hm : Meth X.K C (PySem.dunder op.info.2) f) (ha : DE X W a fa) (hb : DE X W b fb) :
    DE X W (.BinOp a op b pos) (eOwnL c some den fa fb) := by
  obtain ⟨fd, ps, ds, dvs, dds, den0, G, hbi, hd, hdd, rfl⟩ := F.ex
  obtain ⟨ta, pa, ea⟩ := ha.ex
  obtain ⟨tb, pb, eb⟩ := hb.ex
  refine ⟨_, ⟨fun pins s σ H Q I h => ?_⟩, ownL_ent (P := fun Q v H => Q v H) hc hdd (fun Q d z v F' H' e h q => by cases e; exact q _ h) ea eb⟩
  refine wpAny_BinOp (bin (f := fun v u => binaryOp op v u) pa pb I h fun v u s2 x y H2 I2 rx ry q => ?_)
  obtain ⟨a, dx, fs, b, dy, gs, rfl, e, rfl, e', q⟩ := q
  cases (show v = Value.ref a from rx)
  cases (show u = Value.ref b from ry)
  obtain ⟨ox, od, J⟩ := inst_of I2 e
  obtain ⟨ox', od', J'⟩ := inst_of I2 e'
  obtain ⟨m, hF⟩ := I2.fr
  refine PySem.W.binop_K hF I2.ok.mod.kin J J'.type hsf hm.at_ hm.fn (wpAny_mono (run_fnSD (us := [.ref a, .ref b]) (vs := [.ref a, .ref b]) G (hr.mono hk) hbi hd (passAt tk σ) I2 (.cons rfl (.cons rfl .nil)) q) (fun w s' z => ?_) fun _ _ e => e)
  obtain ⟨v', H', I', r', qb⟩ := z
  exact SlX.cmpback r' ⟨v', H', I', r', qb⟩
theorem dc_eqO (F : CalA X.prog X.w X.K X.mg X.base k f den) (tk : Takes X W) (hr : Room j X.A) (hk : k ≤ j) (hc : X.mg c = some (.ref C)) (hm : Meth X.K C "__eq__" f) (ha : DE X W a fa) (hb : DE X W b fb) : DC X W .Eq a b (eOwnL c some den fa fb) := by
  obtain ⟨fd, ps, ds, dvs, dds, den0, G, hbi, hd, hdd, rfl⟩ := F.ex
  obtain ⟨ta, pa, ea⟩ := ha.ex
  obtain ⟨tb, pb, eb⟩ := hb.ex
  refine ⟨_, ⟨fun pins s σ H Q I h => ?_⟩, ownL_ent (P := fun Q v H => Q v H) hc hdd (fun Q d z v F' H' e h q => by cases e; exact q _ h) ea eb⟩
  refine bin (f := fun v u => compareOp .Eq v u) pa pb I h fun v u s2 x y H2 I2 rx ry q => ?_
  obtain ⟨a, dx, fs, b, dy, gs, rfl, e, rfl, e', q⟩ := q
  cases (show v = Value.ref a from rx)
  cases (show u = Value.ref b from ry)
  obtain ⟨ox, od, J⟩ := inst_of I2 e
  obtain ⟨ox', od', J'⟩ := inst_of I2 e'
  obtain ⟨m, hF⟩ := I2.fr
  show wpAny _ _ (richCompare .Eq _ _) _ _ _
  refine PySem.W.cmp_K (op := .Eq) (tb := .ref C) hr.units0 hF I2.ok.mod.kin J J'.type (by simp [PySem.W.notFirst]) hm.at_ hm.fn (wpAny_mono (run_fnSD (us := [.ref a, .ref b]) (vs := [.ref a, .ref b]) G (hr.mono hk) hbi hd (passAt tk σ) I2 (.cons rfl (.cons rfl .nil)) q) (fun w s' z => ?_) fun _ _ e => e)
  obtain ⟨v', H', I', r', qb⟩ := z
  exact SlX.cmpback r' ⟨v', H', I', r', qb⟩
theorem run_fnSDin {CX : CXT} {fd : FuncData} {ps : List Str} {sp : Sp} {dvs : List V} {ds : List Value} {E : L2.St → XK} {pins : List (Addr × Obj)} {σ : L2.St} {H : Hp} {s : Shared} {Q : VK} {us : List Value} {vs : List V} (F : FnOk X.prog X.w X.K X.mg X.base CX k f fd ps sp) (hr : Room (k + 1) X.A) (hb : Binds X.K fd ps ds) (hd : Vals dvs ds) (hx : PassesAt CX X σ (E σ))
    (I : Inv X pins σ H s) (r : Vals vs us) (h : sp (vs ++ dvs) H Q (E σ)) : wpAny (model X.prog X.w) X.A.in1 (call (.ref f) us) (EP X pins σ Q) X.xe s := by
  have r2 : Vals (vs ++ dvs) (us ++ ds) := r.append hd
  have hl : (us ++ ds).length = ps.length := by rw [← r2.length]; exact F.len _ _ _ _ h
  refine wpAny_call (codeAny_mono (F.run X.A.in1 X.stack s H ⟨us, []⟩ (us ++ ds) (vs ++ dvs) Q (E σ) hr.in1 I.env0.in1 (hb s us I.kIn hl) r2 h) fun r s' hq => ?_)
  cases r with
  | error e => exact hx pins H s e s' I hq
  | ok fl =>
    cases fl with
    | ret u => exact I.after hq
    | next => exact False.elim hq
    | brk => exact False.elim hq
    | cont => exact False.elim hq
theorem dc_neO (F : CalA X.prog X.w X.K X.mg X.base k f den) (tk : Takes X W) (hr : Room j X.A) (hk : k + 1 ≤ j) (hc : X.mg c = some (.ref C)) (hm : Meth X.K C "__eq__" f) (hne : PySem.W.findIn X.K (.ref C) "__ne__" = some (some (.builtin "object.__ne__"))) (hmr : PySem.W.mroIn X.K C (.type "object") = some true)
    (ha : DE X W a fa) (hb : DE X W b fb) : DC X W .NotEq a b (eOwnL c toNB den fa fb) := by
  obtain ⟨fd, ps, ds, dvs, dds, den0, G, hbi, hd, hdd, rfl⟩ := F.ex
  obtain ⟨ta, pa, ea⟩ := ha.ex
  obtain ⟨tb, pb, eb⟩ := hb.ex
  refine ⟨_, ⟨fun pins s σ H Q I h => ?_⟩, ownL_ent (P := fun Q v H => ∃ b, v = .bl b ∧ Q (.bl (!b)) H) hc hdd (fun Q => hP_NB) ea eb⟩
  refine bin (f := fun v u => compareOp .NotEq v u) pa pb I h fun v u s2 x y H2 I2 rx ry q => ?_
  obtain ⟨a, dx, fs, b, dy, gs, rfl, e, rfl, e', q⟩ := q
  cases (show v = Value.ref a from rx)
  cases (show u = Value.ref b from ry)
  obtain ⟨ox, od, J⟩ := inst_of I2 e
  obtain ⟨ox', od', J'⟩ := inst_of I2 e'
  obtain ⟨m, hF⟩ := I2.fr
  show wpAny _ _ (richCompare .NotEq _ _) _ _ _
  refine ne_own (tb := .ref C) (by have := hr.units; omega) hF I2.ok.mod.kin J J'.type (by simp [PySem.W.notFirst]) hne hmr hm.at_ hm.fn (wpAny_mono (run_fnSDin (us := [.ref a, .ref b]) (vs := [.ref a, .ref b]) G (hr.mono hk) hbi hd (passAt tk σ) I2 (.cons rfl (.cons rfl .nil)) q) (fun w s' z => ?_) fun _ _ e => e)
  obtain ⟨v', H', I', r', b, e', qb⟩ := z
  exact ⟨b, truthyB r' e', .bl _, H', I', rfl, qb⟩
end
end Dl

set_option Elab.async false
set_option linter.all false
set_option maxRecDepth 100000
set_option maxHeartbeats 4000000
namespace PySem
open Sem (wp)
theorem dl_enum_new {v : Value} {o : Obj} {H : Heap → Prop} (B : Begins v o H) :
    Meets (Builtin.«enumerate.__new__» ⟨[.type "enumerate", v], []⟩) (fun _ R s => H s.heap ∧
      R (.ok (.ret (.ref (s.heap.push o).objs.size))) { s with heap := (s.heap.push o).push { cls := .type "enumerate", data := .fields #[.none, .bool false, .ref s.heap.objs.size, rawInt 0, .none, .none] } }) :=
  .of_wp fun prog w A R s h => by
    obtain ⟨hp, g, d, tk, os⟩ := s; obtain ⟨h1, h⟩ := h
    have hsub := sub_enumerate
    have q1 : ∀ {A' : Around} {E : Value → Shared → Prop} {Q : Value → Shared → Prop}, Q (.ref hp.objs.size) ⟨hp.push o, g, d, tk, os⟩ → wpAny (model prog w) A' (pyIter v) Q E ⟨hp, g, d, tk, os⟩ :=
      fun q => B.iter prog w _ _ ⟨hp, g, d, tk, os⟩ _ h1 q
    wp_walk using q1
    refine wpAny_stack_any fun st => wpAny_pure ?_
    split
    · rename_i c _ _ _ _ _
      cases (c == Value.type "enumerate")
      · wp_walk using q1
        exact ⟨_, rfl, h⟩
      · wp_walk using q1
        exact ⟨_, rfl, h⟩
    · wp_walk using q1
      exact ⟨_, rfl, h⟩
section
variable {prog : Program} {w : World} {A : Around} {E : Value → Shared → Prop} {s : Shared}
theorem dl_call_enum {v : Value} {o : Obj} {H : Heap → Prop} {Q : Value → Shared → Prop} (B : Begins v o H) (h1 : H s.heap)
    (h : ∀ h', IsEnum h' (s.heap.objs.size + 1) s.heap.objs.size 0 .none → h'.get? s.heap.objs.size = some o → h'.objs.size = s.heap.objs.size + 2 →
      (∀ b o, s.heap.get? b = some o → h'.get? b = some o) → Q (.ref (s.heap.objs.size + 1)) { s with heap := h' }) :
    wpAny (model prog w) A (call (.type "enumerate") [v]) Q E s := by
  refine callType_new F.called_enumerate (by decide) (F.typeCall_enumerate_1 _) (F.newCall_enumerate_1 _) (fun obj => F.args_object_init_2 obj _) F.entry_enumerate_new
    (dl_enum_new B) ⟨h1, ?_⟩
  have hz : (s.heap.push o).objs.size = s.heap.objs.size + 1 := Heap.size_push ..
  show _ ∧ _
  rw [hz]
  have he : IsEnum ((s.heap.push o).push { cls := .type "enumerate", data := .fields #[.none, .bool false, .ref s.heap.objs.size, rawInt 0, .none, .none] }) (s.heap.objs.size + 1) s.heap.objs.size 0 .none := by
    have := Heap.get?_push_size (s.heap.push o) (o := { cls := .type "enumerate", data := .fields #[.none, .bool false, .ref s.heap.objs.size, rawInt 0, .none, .none] }) rfl
    rw [hz] at this; exact this
  refine ⟨⟨_, he, rfl⟩, h _ he (Heap.get?_push_of_some _ (Heap.get?_push_size _ B.free)) (by rw [Heap.size_push, hz]) fun b o x => Heap.get?_push_of_some _ (Heap.get?_push_of_some _ x)⟩
end
end PySem
namespace L2
open PySem PySem.Spec PyProof.Rows
/-- the tuple at a, each item in a new pair -/
def IteT (K : PySem.W.Frag) (a : Addr) : It :=
  ⟨fun i H => ∃ (xs : List V) (x : V), SqT K H a xs ∧ xs[i]? = some x, fun i H v H' => ∃ T x, v = .ref T ∧ H T = none ∧ H' = upd H T (.tup [.int (i : Nat), x]) ∧ ∀ xs, SqT K H a xs → xs[i]? = some x, fun i H => ∃ xs : List V, SqT K H a xs ∧ xs.length = i⟩
theorem turn_enumT {P : Program} {w : World} {K : PySem.W.Frag} {elts : List Expr} {kk : Nat} {tpos : Pos} (a e it : Addr) :
    Turn P w K (.Tuple elts kk tpos) (IteT K a) [e, it] e (fun i h => (∃ old, IsEnum h e it ((i : Nat) : Int) old) ∧ h.IsTupleIter it a i ∧ e ≠ it) where
  mem := by simp
  obj := fun i h st b hb => by
    obtain ⟨⟨old, he⟩, ⟨o, ho, hc, hd⟩, _⟩ := st
    have e' : b = e ∨ b = it := by simpa using hb
    rcases e' with z | z
    · rw [z]; exact ⟨_, he, fun v q => nomatch q⟩
    · rw [z]; exact ⟨o, ho, fun v q => by rw [hd] at q; cases q⟩
  keep := fun i h h' st k => let ⟨⟨old, he⟩, hi, hne⟩ := st; ⟨⟨old, k e (by simp) _ he⟩, hi.at fun o q => k it (by simp) o q, hne⟩
  item := by
    intro X hP hw hK hc i pins s σ H E I hf st hg
    subst hP hw hK
    obtain ⟨⟨old, he⟩, hit, hne⟩ := st
    obtain ⟨xs, x, hq, hx⟩ := hg
    obtain ⟨its, rv, p, hz⟩ := I.tuple hq
    obtain ⟨u, hu, ru⟩ := rv.get hx
    have p' : s.heap.IsTuple a its.toArray := p
    have hel : e < s.heap.objs.size := Heap.lt_size he
    have hil : it < s.heap.objs.size := by obtain ⟨_, q, _⟩ := hit; exact Heap.lt_size q
    have nai : a ≠ it := by
      rintro rfl
      obtain ⟨o1, q1, c1, _⟩ := p'
      obtain ⟨o2, q2, c2, _⟩ := hit
      rw [q1] at q2
      cases q2
      rw [c1] at c2
      exact absurd c2 (by decide)
    have nae : e ≠ a := by
      rintro rfl
      obtain ⟨o1, q1, c1, _⟩ := p'
      have he' := he
      unfold IsEnum at he'
      rw [q1] at he'
      cases he'
      exact absurd (show Value.type "enumerate" = Value.type "tuple" from c1) (by decide)
    have hlt : i < its.toArray.size := by
      have := (List.getElem?_eq_some_iff.mp hu).1
      simpa using this
    refine wpAny_pyNext_enum_itemD (Draws.tuple (A := X.A.in1) (I.ok.hd hc) it a nai its.toArray) he ⟨hit, p'⟩ hlt hne (by simp [hne, nae]) fun u' h' tk hP ho hst hT hsz hk => ?_
    have eu : u' = u := by
      have q : its.toArray[i]? = some u' := hP
      rw [List.getElem?_toArray, hu] at q
      cases q
      rfl
    subst eu
    refine ⟨_, rfl, wpAny_letOwnedTupleGo_enum (s := { s with heap := h', toks := tk + 1 }) ho fun h'' he' sb => ?_⟩
    have hT2 : h''.get? s.heap.objs.size = some { cls := .type "tuple", data := .seq #[.int i tk, u'] } := (sb.2 _ (Nat.ne_of_gt hel)).trans hT
    have new : ObjOk X.prog X.w (upd H s.heap.objs.size (.tup [.int (i : Nat), x])) h'' s.heap.objs.size (.tup [.int (i : Nat), x]) :=
      ⟨by show 2 ≤ sizeLine; decide, [.int i tk, u'], .cons ⟨_, rfl⟩ (.cons ru .nil), ⟨_, hT2, rfl, _, rfl⟩⟩
    have I1 : Inv X pins σ (upd H s.heap.objs.size (.tup [.int (i : Nat), x])) { s with heap := h'', toks := tk + 1 } :=
      I.turnedNew (ch := [e, it]) (fun b ob hb q => (sb.2 b (fun z => hb (by simp [z]))).trans (hk b ob (fun z => hb (by simp [z])) (fun z => hb (by simp [z])) q)) hf (Nat.le_refl _) new
    refine ⟨.ref s.heap.objs.size, _, I1, rfl, ⟨_, x, rfl, I.hok.fresh (Nat.le_refl _), rfl, fun ys hy => by rw [I.tuple_inj hy hq]; exact hx⟩, ⟨⟨u', ?_⟩, hst.1.at fun o q => (sb.2 it (Ne.symm hne)).trans q, hne⟩, fun b hb => ?_⟩
    · have e1 : ((i + 1 : Nat) : Int) = (i : Int) + 1 := by omega
      rw [e1]; exact he'
    · have hb' : b < s.heap.objs.size := by
        have e' : b = e ∨ b = it := by simpa using hb
        rcases e' with z | z
        · rw [z]; exact hel
        · rw [z]; exact hil
      rw [upd_ne (Nat.ne_of_lt hb')]
      exact (hf b hb).1
  done := by
    intro X hP hw hK hc i pins s σ H E I hf st hg
    subst hP hw hK
    obtain ⟨⟨old, he⟩, hit, hne⟩ := st
    obtain ⟨xs, hq, hx⟩ := hg
    obtain ⟨its, rv, p, hz⟩ := I.tuple hq
    have p' : s.heap.IsTuple a its.toArray := p
    obtain ⟨f0, f1, f2, f3, f4, f5⟩ := hf it (by simp)
    have hl := rv.length
    have nai : a ≠ it := by
      rintro rfl
      obtain ⟨o1, q1, c1, _⟩ := p'
      obtain ⟨o2, q2, c2, _⟩ := hit
      rw [q1] at q2
      cases q2
      rw [c1] at c2
      exact absurd c2 (by decide)
    have hn : i = its.toArray.size := by simp; omega
    subst hn
    exact wpAny_pyNext_enum_endD (Draws.tuple (A := X.A.in1) (I.ok.hd hc) it a nai its.toArray) he ⟨hit, p'⟩ fun h' eb => ⟨rfl, I.turned (t' := s.toks) (fun b o hb q => eb b o hb q) f0 f1 f3 f4 f5⟩
  self := fun A i s Q E st h => let ⟨⟨_, he⟩, _⟩ := st; wpAny_pyIter_enum he h
def iEnumT (K : PySem.W.Frag) (ta : TA) : TI := fun σ H R => ta σ H fun vs H1 => ∃ a xs, vs = [.ref a] ∧ SqT K H1 a xs ∧ R (IteT K a) H1
theorem pi_enumT {X : Cx} {e : Expr} {ta : TA} {p pos tpos : Pos} {elts : List Expr} {kk : Nat} (hg : Gl X "enumerate") (hm : X.mg "enumerate" = none) (ha : PA X [e] ta) (hs : starEach [e] X.env = [(false, eval e X.env)] := by rfl) :
    PI X (.Tuple elts kk tpos) (.Call (.Name "enumerate" p) [e] [] pos) (iEnumT X.K ta) := by
  refine ⟨fun pins s σ H R I h => ?_⟩
  refine Call_ (ld_blt I hg hm boot_enumerate (PyProof.Rows.callWith_type1 (thn (ha.run pos pins s σ H _ I h) fun us s1 ⟨vs, H1, I1, r1, q1⟩ => ?_) hs rfl))
  obtain ⟨a, xs, ex, hq, q⟩ := q1
  subst ex
  cases r1 with
  | cons r rr =>
    cases rr
    cases r
    obtain ⟨its, rv, p', hz⟩ := I1.tuple hq
    have p'' : s1.heap.IsTuple a its.toArray := p'
    refine dl_call_enum (begins_tuple a its.toArray) p'' fun h' he hit hsz hk => wpAny_pyIter_enum he ?_
    have I2 : Inv X pins σ H1 { s1 with heap := h' } := I1.kept (t' := s1.toks) hk
    refine ⟨s1.heap.objs.size + 1, [s1.heap.objs.size + 1, s1.heap.objs.size], _, _, H1, rfl, I2, turn_enumT a (s1.heap.objs.size + 1) s1.heap.objs.size, ⟨⟨.none, he⟩, ⟨_, hit, rfl, rfl⟩, Nat.succ_ne_self _⟩, fun b hb => ?_, q⟩
    have e' : b = s1.heap.objs.size + 1 ∨ b = s1.heap.objs.size := by simpa using hb
    have hle : s1.heap.objs.size ≤ b := by
      rcases e' with z | z
      · rw [z]; exact Nat.le_add_right _ _
      · rw [z]; exact Nat.le_refl _
    exact I1.fpOk hle (I1.hok.fresh hle)
end L2
namespace Dl
open PySem L2
section
variable {X : Cx} {W : WX} {e : Expr} {p pos : Pos}
def iEnT (f : En → Res (List D × En)) : En → Res (List D × En) := fun r => (f r).bind fun p => match p.1 with
  | [.tup es] => .ok (enumD es, p.2)
  | _ => .bad
theorem walk_enumT {K : PySem.W.Frag} {a : Addr} {xs : List V} : Walk (IteT K a) xs.length (fun H => SqT K H a xs) (YPair (fun i => some (.int (i : Nat))) (fun i => xs[i]?)) := by
  refine ⟨fun i _ hi q => ⟨xs, xs[i], q, by simp [hi]⟩, fun _ q => ⟨xs, q, rfl⟩, fun i H v H' _ q y => ?_⟩
  obtain ⟨T, x, h1, h2, h3, h4⟩ := y
  exact ⟨T, .int (i : Nat), x, h1, h2, h3, rfl, h4 xs q⟩
theorem di_enumT {f : En → Res (List D × En)} {elts : List Expr} {kk : Nat} {tpos : Pos} (hg : Gl X "enumerate") (hm : X.mg "enumerate" = none) (ha : DA X W [e] f) (hs : starEach [e] X.env = [(false, eval e X.env)] := by rfl) : DI X W (.Tuple elts kk tpos) (.Call (.Name "enumerate" p) [e] [] pos) (iEnT f) := by
  obtain ⟨t, hp, he⟩ := ha.ex
  refine ⟨_, pi_enumT hg hm hp hs, fun B F H r σ Q R p => he.to R p fun ds r1 vs F1 H1 R1 s1 x1 p1 => ?_⟩
  simp only at p1
  split at p1
  · rename_i es
    obtain ⟨w, ws, rfl, h1, h2⟩ := x1
    obtain ⟨a, xs, rfl, ha, ra⟩ := h1
    cases (show ws = [] from h2)
    refine ⟨a, xs, rfl, sqT_mono R1.fh ha, p1 _ F1 H1 R1 (Same.refl F1) ?_⟩
    have hl : (enumD es).length = xs.length := by unfold enumD; rw [List.length_map, List.length_zipIdx, repL_len ra]
    refine wk_pair (G := fun H => SqT X.K H a xs) (xs := fun i => some (.int (i : Nat))) (ys := fun i => xs[i]?) ?_ (fun F' H' s1 s2 => sqT_mono (s1.trans s2) ha) ?_
    · rw [hl]
      exact walk_enumT
    · intro i d x y e hx hy
      unfold enumD at e
      rw [List.getElem?_map, List.getElem?_zipIdx] at e
      cases q : es[i]? with
      | none =>
        rw [q] at e
        cases e
      | some d0 =>
        rw [q] at e
        cases e
        obtain ⟨v, e1, e2⟩ := repL_get ra q
        have hy' : xs[i]? = some y := hy
        rw [hy'] at e1
        cases e1
        cases hx
        exact ⟨_, _, rfl, by simp [rep], e2⟩
  · exact p1.elim
end
end Dl

set_option Elab.async false
set_option linter.all false
set_option maxRecDepth 100000
set_option maxHeartbeats 4000000
namespace Dl
open PySem L2

/-! ### several readings of one operator -/
def orD (g h : D → D → Option D) : D → D → Option D := fun x y => match g x y with
  | some z => some z
  | none => h x y
def orU (g h : D → Option D) : D → Option D := fun x => match g x with
  | some z => some z
  | none => h x
theorem eBin_or {g h : D → D → Option D} {fa fb : En → Res (BV × En)} : eAlt (eBin g fa fb) (eBin h fa fb) = eBin (orD g h) fa fb := by
  funext r
  unfold eAlt eBin orD
  cases fa r with
  | ok p =>
    simp only [bind_ok]
    cases fb p.2 with
    | ok q =>
      simp only [bind_ok]
      cases getB p.1 q.2 with
      | ok x =>
        simp only [bind_ok]
        cases getB q.1 q.2 with
        | ok y =>
          simp only [bind_ok]
          cases g x y with
          | some z => rfl
          | none =>
            simp only [liftR, bind_bad]
        | er c fs r' => rfl
        | bad => rfl
      | er c fs r' => rfl
      | bad => rfl
    | er c fs r' => rfl
    | bad => rfl
  | er c fs r' => rfl
  | bad => rfl
theorem eUn_or {g h : D → Option D} {fa : En → Res (BV × En)} : eAlt (eUn g fa) (eUn h fa) = eUn (orU g h) fa := by
  funext r
  unfold eAlt eUn orU
  cases fa r with
  | ok p =>
    simp only [bind_ok]
    cases getB p.1 p.2 with
    | ok x =>
      simp only [bind_ok]
      cases g x with
      | some z => rfl
      | none =>
        simp only [liftR, bind_bad]
    | er c fs r' => rfl
    | bad => rfl
  | er c fs r' => rfl
  | bad => rfl
section
variable {X : Cx} {W : WX} {k : Nat} {a b e : Expr} {pos p : Pos} {fa fb : En → Res (BV × En)} {g h : D → D → Option D} {g1 h1 : D → Option D} {op : CmpOp}
theorem DE.or2 (x : DE X W e (eBin g fa fb)) (y : DE X W e (eBin h fa fb)) : DE X W e (eBin (orD g h) fa fb) := by
  rw [← eBin_or]
  exact x.alt y
theorem DC.or2 (x : DC X W op a b (eBin g fa fb)) (y : DC X W op a b (eBin h fa fb)) : DC X W op a b (eBin (orD g h) fa fb) := by
  rw [← eBin_or]
  exact x.alt y
theorem DE.or1 (x : DE X W e (eUn g1 fa)) (y : DE X W e (eUn h1 fa)) : DE X W e (eUn (orU g1 h1) fa) := by
  rw [← eUn_or]
  exact x.alt y
theorem DN.or1 (x : DN X W e (eUn g1 fa)) (y : DN X W e (eUn h1 fa)) : DN X W e (eUn (orU g1 h1) fa) := by
  rw [← eUn_or]
  exact x.alt y
theorem DC.db (h : DC X W op a b (eBin g fa fb)) (hm : behindInMarks op b = false := by first | exact nomark _ | rfl) : DB X W (.Compare a [op] [b] pos) (bOf (eBin g fa fb)) := (h.de hm).db
theorem de_add (ha : DB X W a fa) (hb : DB X W b fb) : DE X W (.BinOp a .Add b pos) (eBin addI fa fb) := de_op op_add ov_add ha hb
theorem de_sub (ha : DB X W a fa) (hb : DB X W b fb) : DE X W (.BinOp a .Sub b pos) (eBin subI fa fb) := de_op op_sub ov_sub ha hb
theorem de_mul (ha : DB X W a fa) (hb : DB X W b fb) : DE X W (.BinOp a .Mult b pos) (eBin mulI fa fb) := de_op op_mul ov_mul ha hb
theorem de_mod (ha : DB X W a fa) (hb : DB X W b fb) : DE X W (.BinOp a .Mod b pos) (eBin modI fa fb) := de_op op_mod ov_mod ha hb
theorem de_fdiv (ha : DB X W a fa) (hb : DB X W b fb) : DE X W (.BinOp a .FloorDiv b pos) (eBin fdivI fa fb) := de_op op_fdiv ov_fdiv ha hb
theorem de_pow (ha : DB X W a fa) (hb : DB X W b fb) : DE X W (.BinOp a .Pow b pos) (eBin powI fa fb) := de_op op_pow ov_pow ha hb
theorem dn_cat (ha : DB X W a fa) (hb : DB X W b fb) : DN X W (.BinOp a .Add b pos) (eBin catL fa fb) := dn_op op_cat on_cat ha hb
theorem de_neg (ha : DB X W a fa) : DE X W (.UnaryOp .USub a pos) (eUn negI fa) := de_un un_neg uv_neg ha
theorem dc_lt (ha : DB X W a fa) (hb : DB X W b fb) : DC X W .Lt a b (eBin ltI fa fb) := dc_op op_lt ov_lt ha hb
theorem dc_le (ha : DB X W a fa) (hb : DB X W b fb) : DC X W .LtE a b (eBin leI fa fb) := dc_op op_le ov_le ha hb
theorem dc_gt (ha : DB X W a fa) (hb : DB X W b fb) : DC X W .Gt a b (eBin gtI fa fb) := dc_op op_gt ov_gt ha hb
theorem dc_ge (ha : DB X W a fa) (hb : DB X W b fb) : DC X W .GtE a b (eBin geI fa fb) := dc_op op_ge ov_ge ha hb
theorem dc_eq (hr : Room k X.A) (ha : DB X W a fa) (hb : DB X W b fb) : DC X W .Eq a b (eBin eqD fa fb) := dc_op (op_eqA hr.units) ov_eq ha hb
theorem dc_ne (hr : Room k X.A) (ha : DB X W a fa) (hb : DB X W b fb) : DC X W .NotEq a b (eBin neD fa fb) := dc_op (op_neA hr.units) ov_ne ha hb
theorem dc_is (ha : DB X W a fa) (hb : DB X W b fb) : DC X W .Is a b (eBin isN fa fb) := dc_op op_isN ov_isN ha hb
theorem dc_isnot (ha : DB X W a fa) (hb : DB X W b fb) : DC X W .IsNot a b (eBin notN fa fb) := dc_op op_notN ov_notN ha hb
theorem Room.u200 {k : Nat} {A : Around} (r : Room k A) : A.units + 199 < cLine := by have := r.un; omega
theorem dc_inL (hr : Room k X.A) (ha : DB X W a fa) (hb : DB X W b fb) : DC X W .In a b (eBin inLst fa fb) := dc_op (op_inD (by have := Room.u200 hr; omega)) ov_inLst ha hb
theorem dc_ninL (hr : Room k X.A) (ha : DB X W a fa) (hb : DB X W b fb) : DC X W .NotIn a b (eBin ninLst fa fb) := dc_op (op_notInD (by have := Room.u200 hr; omega)) ov_ninLst ha hb
theorem dc_inS (ha : DB X W a fa) (hb : DB X W b fb) : DC X W .In a b (eBin inStr fa fb) := dc_op op_in_str ov_inStr ha hb
theorem dc_inK (hr : Room k X.A) (ha : DB X W a fa) (hb : DB X W b fb) : DC X W .In a b (eBin dinD fa fb) := dc_din (by have := Room.u200 hr; omega) ha hb
theorem dc_ninK (hr : Room k X.A) (ha : DB X W a fa) (hb : DB X W b fb) : DC X W .NotIn a b (eBin dninD fa fb) := dc_dnin (by have := Room.u200 hr; omega) ha hb
theorem de_at (ha : DB X W a fa) (hb : DB X W b fb) (hs : PlainIx b := by exact fun _ _ => rfl) : DE X W (.Subscript a b pos) (eBin ixG fa fb) := de_ix ix_seq ov_ix ha hb hs
theorem de_atK (hr : Room k X.A) (ha : DB X W a fa) (hb : DB X W b fb) (hs : NoSl b := by exact fun _ _ => rfl) : DE X W (.Subscript a b pos) (eBin dgetD fa fb) := de_dget (by have := Room.u200 hr; omega) ha hb hs
theorem de_len (hm : X.mg "len" = none) (ha : DB X W a fa) (hg : Gl X "len" := by rfl) (hst : starEach [a] X.env = (false, eval a X.env) :: starEach [] X.env := by rfl) : DE X W (.Call (.Name "len" p) [a] [] pos) (eUn (orU lenD lenK) fa) :=
  (de_b1 call_len uv_len hg hm boot_len ha hst (by decide) (by decide)).or1 (de_b1 call_lenK uv_lenK hg hm boot_len ha hst (by decide) (by decide))
theorem de_abs (hm : X.mg "abs" = none) (ha : DB X W a fa) (hg : Gl X "abs" := by rfl) (hst : starEach [a] X.env = (false, eval a X.env) :: starEach [] X.env := by rfl) : DE X W (.Call (.Name "abs" p) [a] [] pos) (eUn absD fa) :=
  de_b1 call_abs uv_abs hg hm PyProof.Rows.boot_abs ha hst (by decide) (by decide)
theorem de_all (hc : X.calm = true) (hm : X.mg "all" = none) (ha : DB X W a fa) (hg : Gl X "all" := by rfl) (hst : starEach [a] X.env = (false, eval a X.env) :: starEach [] X.env := by rfl) : DE X W (.Call (.Name "all" p) [a] [] pos) (eUn allD fa) :=
  de_b1 (cr_all hc) uv_all hg hm (by decide +kernel) ha hst (by decide) (by decide)
theorem de_any (hc : X.calm = true) (hm : X.mg "any" = none) (ha : DB X W a fa) (hg : Gl X "any" := by rfl) (hst : starEach [a] X.env = (false, eval a X.env) :: starEach [] X.env := by rfl) : DE X W (.Call (.Name "any" p) [a] [] pos) (eUn anyD fa) :=
  de_b1 (cr_any hc) uv_any hg hm (by decide +kernel) ha hst (by decide) (by decide)
theorem de_sum (hc : X.calm = true) (hm : X.mg "sum" = none) (ha : DB X W a fa) (hg : Gl X "sum" := by rfl) (hst : starEach [a] X.env = (false, eval a X.env) :: starEach [] X.env := by rfl) : DE X W (.Call (.Name "sum" p) [a] [] pos) (eUn sumD fa) :=
  de_b1 (cr_sum hc) uv_sum hg hm (by decide +kernel) ha hst (by decide) (by decide)
theorem de_reprB (hm : X.mg "repr" = none) (ha : DB X W a fa) (hg : Gl X "repr" := by rfl) (hst : starEach [a] X.env = (false, eval a X.env) :: starEach [] X.env := by rfl) : DE X W (.Call (.Name "repr" p) [a] [] pos) (eUn reprB fa) :=
  de_b1 call_reprB uv_reprB hg hm PyProof.Rows.boot_repr ha hst (by decide) (by decide)
theorem dn_sorted (hr : Room k X.A) (hm : X.mg "sorted" = none) (ha : DB X W a fa) (hg : Gl X "sorted" := by rfl) (hst : starEach [a] X.env = (false, eval a X.env) :: starEach [] X.env := by rfl) : DN X W (.Call (.Name "sorted" p) [a] [] pos) (eUn sortedD fa) :=
  dn_b1 (call_sortD (by have := Room.u200 hr; omega)) un_sort hg hm PyProof.Rows.boot_sorted ha hst (by decide) (by decide)
theorem de_int1 (hm : X.mg "int" = none) (ha : DB X W a fa) (hg : Gl X "int" := by rfl) (hst : starEach [a] X.env = (false, eval a X.env) :: starEach [] X.env := by rfl) : DE X W (.Call (.Name "int" p) [a] [] pos) (eUn intD fa) :=
  de_t1 call_int1 uv_int hg hm PyProof.Rows.boot_int ha hst (by decide) (by decide)
theorem dn_dict1 (hc : X.calm = true) (hm : X.mg "dict" = none) (ha : DB X W a fa) (hg : Gl X "dict" := by rfl) (hst : starEach [a] X.env = (false, eval a X.env) :: starEach [] X.env := by rfl) : DN X W (.Call (.Name "dict" p) [a] [] pos) (eUn (orU dictD dictP) fa) :=
  (dn_t1 call_dictC un_dictC hg hm PyProof.Rows.boot_dict ha hst (by decide) (by decide)).or1 (dn_t1 (call_dictP hc) un_dictP hg hm PyProof.Rows.boot_dict ha hst (by decide) (by decide))
theorem de_max2 (hc : X.calm = true) (hm : X.mg "max" = none) (ha : DB X W a fa) (hb : DB X W b fb) (hg : Gl X "max" := by rfl)
    (hst : starEach [a, b] X.env = (false, eval a X.env) :: starEach [b] X.env := by rfl) (hst2 : starEach [b] X.env = (false, eval b X.env) :: starEach [] X.env := by rfl) : DE X W (.Call (.Name "max" p) [a, b] [] pos) (eBin max2D fa fb) :=
  de_b2 (call_max2 hc) ov_max2 hg hm PyProof.Rows.boot_max ha hb hst hst2 (by decide) (by decide)
theorem de_min2 (hc : X.calm = true) (hm : X.mg "min" = none) (ha : DB X W a fa) (hb : DB X W b fb) (hg : Gl X "min" := by rfl)
    (hst : starEach [a, b] X.env = (false, eval a X.env) :: starEach [b] X.env := by rfl) (hst2 : starEach [b] X.env = (false, eval b X.env) :: starEach [] X.env := by rfl) : DE X W (.Call (.Name "min" p) [a, b] [] pos) (eBin min2D fa fb) :=
  de_b2 (call_min2 hc) ov_min2 hg hm PyProof.Rows.boot_min ha hb hst hst2 (by decide) (by decide)
end
end Dl

set_option Elab.async false
set_option linter.all false
set_option maxRecDepth 100000
set_option maxHeartbeats 4000000
namespace Dl
open PySem L2
section
variable {X : Cx} {W : WX} {a : Expr} {pos p : Pos} {fa : En → Res (BV × En)}
theorem dn_list1 (hm : X.mg "list" = none) (ha : DB X W a fa) (hg : Gl X "list" := by rfl) (hst : starEach [a] X.env = (false, eval a X.env) :: starEach [] X.env := by rfl) : DN X W (.Call (.Name "list" p) [a] [] pos) (eUn listD fa) :=
  dn_t1 call_list_of un_list hg hm PyProof.Rows.boot_list ha hst (by decide) (by decide)
end
/-! ### more facts of the head -/
inductive Fb where
  | ins (c : Str)
  | noB (c : Str) (ns : List String)
  | noO (c : Str)
  | kit (c d : Str)
  | ops (c : Str)
  | conI (c f : Str) (i : Int)
  | conS (c f z : Str)
  | tup0 (q : Str × Option Str) (i : Nat)
def eqB (a b : Option Bool) : Bool := decide (a = b)
def conOf (K : PySem.W.Frag) (c f : Str) : Option Value := match PySem.W.findIn K (.ref (He.ga K c)) f with
  | some (some u) => some u
  | _ => none
def Fb.ok (K : PySem.W.Frag) : Fb → Bool
  | .ins c => He.eqO (PySem.W.findIn K (.ref (He.ga K c)) "__class__") (some (some (.builtin "object.__class__"))) && (He.eqO (PySem.W.specialIn K (.builtin "object.__class__") "__get__") (some (some (.builtin "getset_descriptor.__get__")))
      && (eqB (PySem.W.takesIn K (.builtin "object.__class__")) (some true) && eqB (PySem.W.mroIn K (He.ga K c) (.type "object")) (some true)))
  | .noB c ns => ns.all fun n => eqB (PySem.W.kitOne K (.ref (He.ga K c)) (.type n)) (some false)
  | .noO c => tyNs.all fun t => eqB (PySem.W.kitOne K (.type t) (.ref (He.ga K c))) (some false)
  | .kit c d => eqB (PySem.W.kitOne K (.ref (He.ga K c)) (.ref (He.ga K d))) (some false)
  | .ops c => PySem.W.selfFirst K (He.ga K c) && He.eqO (PySem.W.findIn K (.ref (He.ga K c)) "__ne__") (some (some (.builtin "object.__ne__")))
  | .conI c f i => (match conOf K c f with
    | some (.int j t) => decide (j = i) && He.eqO (PySem.W.specialIn K (.int j t) "__get__") (some none)
    | _ => false) && !PySem.W.copiedNames.contains f
  | .conS c f z => (match conOf K c f with
    | some (.str j t) => decide (j = z) && He.eqO (PySem.W.specialIn K (.str j t) "__get__") (some none)
    | _ => false) && !PySem.W.copiedNames.contains f
  | .tup0 q i => match K.lookup (He.dflAt q i K) with
    | some ⟨.type n, _, .seq its _, _⟩ => decide (n = "tuple") && decide (its.toList = [])
    | _ => false
section
variable {K : PySem.W.Frag}
theorem fb_ins {c : Str} (h : (Fb.ins c).ok K = true) (cl : Cls K (He.ga K c)) : InsC K (He.ga K c) := by
  obtain ⟨h1, h⟩ := He.ba h
  obtain ⟨h2, h⟩ := He.ba h
  obtain ⟨h3, h4⟩ := He.ba h
  exact ⟨cl, He.eqO_ok h1, He.eqO_ok h2, of_decide_eq_true h3, of_decide_eq_true h4⟩
theorem fb_noB {c : Str} {ns : List String} (h : (Fb.noB c ns).ok K = true) : ∀ n ∈ ns, PySem.W.kitOne K (.ref (He.ga K c)) (.type n) = some false := fun n hn => of_decide_eq_true (List.all_eq_true.mp h n hn)
theorem fb_noO {c : Str} (h : (Fb.noO c).ok K = true) : ∀ t ∈ tyNs, PySem.W.kitOne K (.type t) (.ref (He.ga K c)) = some false := fun n hn => of_decide_eq_true (List.all_eq_true.mp h n hn)
theorem fb_kit {c d : Str} (h : (Fb.kit c d).ok K = true) : PySem.W.kitOne K (.ref (He.ga K c)) (.ref (He.ga K d)) = some false := of_decide_eq_true h
theorem fb_self {c : Str} (h : (Fb.ops c).ok K = true) : PySem.W.selfFirst K (He.ga K c) = true := (He.ba h).1
theorem fb_ne {c : Str} (h : (Fb.ops c).ok K = true) : PySem.W.findIn K (.ref (He.ga K c)) "__ne__" = some (some (.builtin "object.__ne__")) := He.eqO_ok (He.ba h).2
theorem conOf_at {c f : Str} {u : Value} (h : conOf K c f = some u) : PySem.W.findIn K (.ref (He.ga K c)) f = some (some u) := by
  unfold conOf at h
  split at h
  · rename_i e
    cases h
    exact e
  · cases h
theorem fb_conI {c f : Str} {i : Int} (h : (Fb.conI c f i).ok K = true) : ∃ t, Con K (He.ga K c) f (.int i) (.int i t) := by
  obtain ⟨h1, h2⟩ := He.ba h
  have h2' : PySem.W.copiedNames.contains f = false := by
    cases q : PySem.W.copiedNames.contains f
    · rfl
    · rw [q] at h2
      cases h2
  split at h1
  · rename_i j t e
    obtain ⟨h3, h4⟩ := He.ba h1
    have ej : j = i := of_decide_eq_true h3
    subst ej
    exact ⟨t, conOf_at e, ⟨t, rfl⟩, He.eqO_ok h4, h2'⟩
  · cases h1
theorem fb_conS {c f z : Str} (h : (Fb.conS c f z).ok K = true) : ∃ t, Con K (He.ga K c) f (.str z) (.str z t) := by
  obtain ⟨h1, h2⟩ := He.ba h
  have h2' : PySem.W.copiedNames.contains f = false := by
    cases q : PySem.W.copiedNames.contains f
    · rfl
    · rw [q] at h2
      cases h2
  split at h1
  · rename_i j t e
    obtain ⟨h3, h4⟩ := He.ba h1
    have ej : j = z := of_decide_eq_true h3
    subst ej
    exact ⟨t, conOf_at e, ⟨t, rfl⟩, He.eqO_ok h4, h2'⟩
  · cases h1
theorem fb_tup0 {q : Str × Option Str} {i : Nat} {mg : Str → Option Value} (h : (Fb.tup0 q i).ok K = true) (F : Hp) : rep K mg F (.tup []) (.ref (He.dflAt q i K)) := by
  have h' : (match K.lookup (He.dflAt q i K) with
    | some ⟨.type n, _, .seq its _, _⟩ => decide (n = "tuple") && decide (its.toList = [])
    | _ => false) = true := h
  split at h'
  · rename_i n od its m sl e
    obtain ⟨h1, h2⟩ := He.ba h'
    have en : n = "tuple" := of_decide_eq_true h1
    have ei : its.toList = [] := of_decide_eq_true h2
    subst en
    refine ⟨He.dflAt q i K, [], rfl, .inr ⟨_, its, m, e, rfl, rfl, ?_, ?_⟩, rfl⟩
    · have : its.size = 0 := by rw [← Array.length_toList, ei]; rfl
      rw [this]
      exact Nat.zero_le _
    · rw [ei]
      exact .nil
  · cases h'
end
/-! ### the Hook -/
def obsF (fa : List He.Fa) (fn : List He.DefD) (fb : List Fb) (K : PySem.W.Frag) : He.AlD × Bool := (He.obsD fa fn K, fb.all fun f => f.ok K)
def valF (fn : List He.DefD) : He.AlD × Bool := (He.valD fn, true)
def SaysF (fa : List He.Fa) (fn : List He.DefD) (fb : List Fb) (K : PySem.W.Frag) : Prop := obsF fa fn fb K = valF fn
def obsFG (n : Nat) (fa : List He.Fa) (fn : List He.DefD) (fb : List Fb) (g : Addr → Option Obj) : He.AlD × Bool := obsF fa fn fb (He.frG g (He.asD g n))
def hookF (n : Nat) (fa : List He.Fa) (fn : List He.DefD) (fb : List Fb) : PySem.W.Hook where
  α := He.AlD × Bool
  obs := fun s => obsFG n fa fn fb s.heap.get?
  val := fun _ => valF fn
  says := fun _ h => ∃ K : PySem.W.Frag, K.In h ∧ SaysF fa fn fb K
  of := fun _ _ e => ⟨_, He.frG_in, e⟩
  keeps := fun _ _ _ ⟨K, hK, c⟩ k => ⟨K, PySem.W.Frag.In.keeps hK k, c⟩
theorem obsFG_eq {n : Nat} {fa : List He.Fa} {fn : List He.DefD} {fb : List Fb} {g : Addr → Option Obj} {s : Shared} (h : ∀ a, g a = s.heap.get? a) : obsFG n fa fn fb g = (hookF n fa fn fb).obs s := by
  have e : g = s.heap.get? := funext h
  rw [e] <;> rfl
/-- what the head tells of K and the module's names -/
structure Wd (fa : List He.Fa) (fn : List He.DefD) (fb : List Fb) (K : PySem.W.Frag) (mg : Str → Option Value) : Prop where
  ex : ∃ h : Heap, K.In h ∧ h.Ns mainGlobals mg
  c : SaysF fa fn fb K
section
variable {fa : List He.Fa} {fn : List He.DefD} {fb : List Fb} {K : PySem.W.Frag} {mg : Str → Option Value}
theorem Wd.d (V : Wd fa fn fb K mg) : He.SaysD fa fn K := congrArg (fun z : He.AlD × Bool => z.1) V.c
theorem Wd.fbs (V : Wd fa fn fb K mg) (i : Nat) {f : Fb} (h : fb[i]? = some f := by rfl) : f.ok K = true := by
  have c2 : (fb.all fun f => f.ok K) = true := congrArg (fun z : He.AlD × Bool => z.2) V.c
  exact List.all_eq_true.mp c2 f (List.mem_of_getElem? h)
theorem Wd.glo (V : Wd fa fn fb K mg) (i : Nat) {x : Str} (h : fa[i]? = some (.glo x) := by rfl) : mg x = some (.ref (He.ga K x)) := let ⟨_, X, G⟩ := V.ex; He.glo_ok X G (V.d.fact i h)
theorem Wd.free (V : Wd fa fn fb K mg) (i : Nat) {x : Str} (h : fa[i]? = some (.free x) := by rfl) : mg x = none := let ⟨_, X, G⟩ := V.ex; He.free_ok X G (V.d.fact i h)
theorem Wd.int (V : Wd fa fn fb K mg) (i : Nat) {x : Str} {n : Int} (h : fa[i]? = some (.int x n) := by rfl) : ∃ t, mg x = some (.int n t) := let ⟨_, X, G⟩ := V.ex; He.int_ok X G (V.d.fact i h)
theorem Wd.str (V : Wd fa fn fb K mg) (i : Nat) {x z : Str} (h : fa[i]? = some (.str x z) := by rfl) : ∃ t, mg x = some (.str z t) := let ⟨_, X, G⟩ := V.ex; He.str_ok X G (V.d.fact i h)
theorem Wd.cls (V : Wd fa fn fb K mg) (i : Nat) {x : Str} (h : fa[i]? = some (.cls x) := by rfl) : Cls K (He.ga K x) := He.cls_ok (V.d.fact i h)
theorem Wd.noat (V : Wd fa fn fb K mg) (i : Nat) {x f : Str} (h : fa[i]? = some (.noat x f) := by rfl) : NoAttr K (He.ga K x) f := He.noat_ok (V.d.fact i h)
theorem Wd.meth (V : Wd fa fn fb K mg) (i : Nat) {x m : Str} (h : fa[i]? = some (.meth x m) := by rfl) : Meth K (He.ga K x) m (He.ma K (He.ga K x) m) := He.meth_ok (V.d.fact i h)
theorem Wd.mkr (V : Wd fa fn fb K mg) (i : Nat) {x : Str} (h : fa[i]? = some (.mkr x) := by rfl) : Mk K (He.ga K x) (He.ma K (He.ga K x) "__init__") := He.mkr_ok (V.d.fact i h)
end
/-! ### a def's bundle -/
section
variable {P : Program} {w : World} {K : PySem.W.Frag} {mg : Str → Option Value} {base : Heap} {x qual : Str} {params : Arguments} {body : List Stmt} {scope : Scope} {dvs : List V} {kws : List (Str × V)} {f : Addr} {fd : FuncData} {N ps : List Str} {k : Nat} {den : En → SR}
/-- no defaults -/
theorem cal_A (F : FunD K x qual params body scope [] [] f fd) (S : FnScope N ps scope) (b : BodyOk P w K mg base k N qual scope f body den)
    (h : ∀ (kV doc pm : Value) (an : Option Addr) (cdv ct : Value) (us : List Value), us.length = ps.length → bindArgs (PySem.W.fnOf x qual params body scope .none kV doc pm an cdv ct) ⟨us, []⟩ = pure (ps.zip us)) :
    CalA P w K mg base (k + 1) f (runF N.length ps.length den) :=
  ⟨⟨fd, ps, [], [], [], _, fn_D F S b, F.bindsN h, .nil, fun _ => rfl, by funext as; rw [List.append_nil]⟩, F.kp⟩
theorem cal_B (F : FunD K x qual params body scope [] [] f fd) (S : FnScope N ps scope) (b : BodyOk P w K mg base k N qual scope f body den)
    (h : ∀ (kV doc pm : Value) (an : Option Addr) (cdv ct : Value) (us : List Value), us.length = ps.length → bindArgs (PySem.W.fnOf x qual params body scope .none kV doc pm an cdv ct) ⟨us, []⟩ = pure (ps.zip us)) :
    CalB P w K mg base (k + 1) f (runB N.length ps.length den) :=
  ⟨⟨fd, ps, [], [], [], _, fn_B F S b, F.bindsN h, .nil, fun _ => rfl, by funext d as; rw [List.append_nil]⟩, F.kp⟩
/-- the defaults from the j-th on are used -/
theorem cal_AD {dds : List D} (F : FunD K x qual params body scope dvs [] f fd) (S : FnScope N ps scope) (b : BodyOk P w K mg base k N qual scope f body den) (n j : Nat) (hd : dvs ≠ []) (hn : n + (dvs.length - j) = ps.length) (hdd : ∀ F, repL K mg F dds (dvs.drop j))
    (h : ∀ (T : Addr) (kV doc pm : Value) (an : Option Addr) (cdv ct : Value) (us its : List Value), us.length = n → its.length = dvs.length →
      ∃ k, bindArgs (PySem.W.fnOf x qual params body scope (.ref T) kV doc pm an cdv ct) ⟨us, []⟩ = seqItems? (.ref T) >>= k ∧ k (some its.toArray) = pure (ps.zip (us ++ its.drop j))) :
    CalA P w K mg base (k + 1) f (fun as => runF N.length ps.length den (as ++ dds)) := by
  obtain ⟨ds, hv, hb⟩ := F.binds1 n j hd hn h
  exact ⟨⟨fd, ps, ds, dvs.drop j, dds, _, fn_D F S b, hb, hv, hdd, rfl⟩, F.kp⟩
theorem cal_BD {dds : List D} (F : FunD K x qual params body scope dvs [] f fd) (S : FnScope N ps scope) (b : BodyOk P w K mg base k N qual scope f body den) (n j : Nat) (hd : dvs ≠ []) (hn : n + (dvs.length - j) = ps.length) (hdd : ∀ F, repL K mg F dds (dvs.drop j))
    (h : ∀ (T : Addr) (kV doc pm : Value) (an : Option Addr) (cdv ct : Value) (us its : List Value), us.length = n → its.length = dvs.length →
      ∃ k, bindArgs (PySem.W.fnOf x qual params body scope (.ref T) kV doc pm an cdv ct) ⟨us, []⟩ = seqItems? (.ref T) >>= k ∧ k (some its.toArray) = pure (ps.zip (us ++ its.drop j))) :
    CalB P w K mg base (k + 1) f (fun d as => runB N.length ps.length den d (as ++ dds)) := by
  obtain ⟨ds, hv, hb⟩ := F.binds1 n j hd hn h
  exact ⟨⟨fd, ps, ds, dvs.drop j, dds, _, fn_B F S b, hb, hv, hdd, rfl⟩, F.kp⟩
/-- the law -/
theorem law_sp {n : Nat} {den0 : List D → Res D} (hd : ∀ ns : List Int, ns.length ≤ n → den0 [.scr ns] = .ok (.bl true)) (H : Hp) (a : Addr) (ns : List Int) (hl : ns.length ≤ n) (hS : SqL K H a (ns.map V.int)) : spD K mg den0 [.ref a] H (fun v _ => v = .bl true) fun _ _ _ => False := by
  refine ⟨H, [.scr ns], Same.refl H, ⟨_, _, rfl, ⟨a, rfl, hS⟩, rfl⟩, ?_⟩
  rw [hd ns hl]
  exact fun v F' H' _ r => r
end
end Dl

set_option Elab.async false
set_option linter.all false
set_option maxRecDepth 100000
set_option maxHeartbeats 4000000
namespace Dl
open PySem L2

/-! ### defs that give a new object back -/
section
variable (K : PySem.W.Frag) (mg : Str → Option Value)
def PoR (W : WX) (B : Bg) (F : Hp) (Z : Ends) : Res (D × En) → Prop
  | .ok (d, r') => ∀ v σ' F' H', Rel K mg B F' H' r' σ' → Same F F' → rN K mg B σ' r' F' H' d v → Z.rt v H'
  | .er c fs r' => PoX K mg W B F c fs r'
  | .bad => False
def EntR (W : WX) (t : TS) (f : En → Res (D × En)) : Prop := ∀ B F H r σ Z, Rel K mg B F H r σ → PoR K mg W B F Z (f r) → t Z σ H
end
structure DNs (X : Cx) (W : WX) (st : List Stmt) (f : En → Res (D × En)) : Prop where
  ex : ∃ t, PSs X st t ∧ EntR X.K X.mg W t f
def nSeq (f : En → SR) (g : En → Res (D × En)) : En → Res (D × En) := fun r => match f r with
  | .nx r' => g r'
  | .er c fs r' => .er c fs r'
  | _ => .bad
/-- an owned slot is given away -/
def eMv (i : Nat) : En → Res (D × En) := fun r => match r[i]? with
  | some (some (.ow d)) => .ok (d, r.set i none)
  | _ => .bad
section
variable {K : PySem.W.Frag} {mg : Str → Option Value} {W : WX} {B : Bg} {F F' H H' : Hp} {r : En} {σ : L2.St} {Z : Ends}
theorem PoR.weak {m : Res (D × En)} (h : PoR K mg W B F Z m) (e : Same F F') : PoR K mg W B F' Z m := by
  cases m with
  | ok a => exact fun v σ' F1 H1 R1 s x => h v σ' F1 H1 R1 (e.trans s) x
  | er c fs r' => exact PoX.weak h e
  | bad => exact h
theorem Rel.lay {i : Nat} (R : Rel K mg B F H r σ) : Rel K mg B F H (r.set i none) σ where
  fh := R.fh
  f0 := R.f0
  keep := R.keep
  fresh := R.fresh
  live := R.live
  len := by rw [List.length_set]; exact R.len
  slot := fun j s h => by
    rw [get_set] at h
    split at h
    · split at h <;> cases h
    · exact R.slot j s h
  apart := fun a b s t p ne ha hb ms mt ea => by
    rw [get_set] at ha hb
    split at ha
    · split at ha <;> cases ha
    · split at hb
      · split at hb <;> cases hb
      · exact R.apart a b s t p ne ha hb ms mt ea
theorem Rel.growL {pa : Addr} (R : Rel K mg B F H r σ) (hB : B.H pa = none) (nb : pa ∉ B.bs) (hl : Loose r σ pa) (g : Grow (some pa) F H F' H') : Rel K mg B F' H' r σ where
  fh := g.fh
  f0 := R.f0.trans g.f
  keep := fun a o hb h => by
    have ne : a ≠ pa := fun z => by
      rw [z, hB] at h
      cases h
    exact g.h a o (fun z => ne (Option.some.inj z).symm) (R.keep a o hb h)
  fresh := fun a h1 h2 => by
    have h3 := R.fresh a h1 h2
    by_cases hb : a ∈ B.bs
    · exact g.fr a h3 (R.live a hb).1
    · cases q : B.H a with
      | none => exact absurd q h2
      | some o => exact g.fr a h3 (by rw [R.keep a o hb q]; exact fun z => nomatch z)
  live := fun a hb => by
    obtain ⟨h1, h2⟩ := R.live a hb
    refine ⟨?_, h2⟩
    have ne : a ≠ pa := fun z => nb (z ▸ hb)
    cases q : H a with
    | none => exact absurd q h1
    | some o =>
      rw [g.h a o (fun z => ne (Option.some.inj z).symm) q]
      exact fun z => nomatch z
  len := R.len
  slot := fun i s h => by
    have q := R.slot i s h
    cases s with
    | fz d =>
      obtain ⟨v, e, h'⟩ := q
      exact ⟨v, e, rep_mono g.f _ _ h'⟩
    | ow d =>
      obtain ⟨p', e', hF', hB', hb', h'⟩ := q
      have ne : p' ≠ pa := fun z => hl i _ h rfl (by rw [e', z])
      obtain ⟨o', ho'⟩ := own_there d h'
      exact ⟨p', e', g.fr p' hF' (by rw [ho']; exact fun z => nomatch z), hB', hb', own_mono g.f (by rw [ho']; exact g.h _ _ (fun z => ne (Option.some.inj z).symm) ho') d h'⟩
    | bo d =>
      obtain ⟨p', e', hF', hb', h'⟩ := q
      have ne : p' ≠ pa := fun z => hl i _ h rfl (by rw [e', z])
      obtain ⟨o', ho'⟩ := own_there d h'
      exact ⟨p', e', g.fr p' hF' (by rw [ho']; exact fun z => nomatch z), hb', own_mono g.f (by rw [ho']; exact g.h _ _ (fun z => ne (Option.some.inj z).symm) ho') d h'⟩
  apart := R.apart
end
section
variable {X : Cx} {W : WX} {st : Stmt} {rest : List Stmt} {f : En → SR} {g h : En → Res (D × En)} {e : Expr} {pos : Pos}
theorem dns_ret (hh : DN X W e h) : DNs X W [.Return (some e) pos] h := by
  obtain ⟨t, hp, he⟩ := hh.ex
  refine ⟨_, pss_one (ps_ret hp), fun B F H r σ Z R p => he B F H r σ _ R ?_⟩
  cases q : h r with
  | ok a =>
    rw [q] at p
    exact fun v F' H' R' s x => p v σ F' H' R' s x
  | er c fs r' =>
    rw [q] at p
    exact p
  | bad =>
    rw [q] at p
    exact p
theorem dns_cons (h1 : DS X W st f) (h2 : DNs X W rest g) : DNs X W (st :: rest) (nSeq f g) := by
  obtain ⟨t, hp, he⟩ := h1.ex
  obtain ⟨u, kp, ke⟩ := h2.ex
  refine ⟨_, pss_cons hp kp, fun B F H r σ Z R p => he B F H r σ _ R ?_⟩
  have p' : PoR X.K X.mg W B F Z (match f r with | .nx r' => g r' | .er c fs r' => .er c fs r' | _ => .bad) := p
  cases q : f r with
  | nx r' =>
    rw [q] at p'
    exact fun σ' F' H' R' s => ke B F' H' r' σ' Z R' (PoR.weak p' s)
  | er c fs r' =>
    rw [q] at p'
    exact p'
  | _ =>
    rw [q] at p'
    exact p'.elim
theorem dn_mv {i : Nat} {x : Str} (hN : X.N[i]? = some x := by rfl) (hv : Vis X.env.scope x := by first | exact Or.inl rfl | exact Or.inr (Or.inl rfl) | exact Or.inr (Or.inr rfl)) (hd : (x == ("__debug__" : Str)) = false := by decide)
    (hc : (x == ("__classdict__" : Str)) = false := by decide) : DN X W (.Name x pos) (eMv i) := by
  refine ⟨_, pe_var hN hv hd hc, fun B F H r σ Q R p => ?_⟩
  unfold eMv at p
  split at p
  · rename_i d e
    obtain ⟨pa, e1, h1, h2, h3, h4⟩ := R.slot i _ e
    refine ⟨_, e1, p _ F H R.lay (Same.refl F) ⟨pa, rfl, h1, h2, h3, fun j s hj mj ej => ?_, h4⟩⟩
    rw [get_set] at hj
    split at hj
    · split at hj <;> cases hj
    · rename_i ne
      exact R.apart i j _ s pa ne e hj rfl mj e1 ej
  · exact p.elim
end
section
variable (K : PySem.W.Frag) (mg : Str → Option Value)
def PoFN (F H : Hp) (Q : VK) (E : XK) : Res D → Prop
  | .ok d => ∀ p F' H', Grow none F H F' H' → F' p = none → H p = none → ownAt K mg F' H' p d → Q (.ref p) H'
  | .er c fs _ => ∀ C od F' H', mg c = some (.ref C) → Grow none F H F' H' → xdOk K mg F' H' fs od → E (.ref C) od H'
  | .bad => False
def spN (den : List D → Res D) : Sp := fun vs H Q E => ∃ F ds, Same F H ∧ repL K mg F ds vs ∧ PoFN K mg F H Q E (den ds)
end
def runN (n np : Nat) (f : En → Res (D × En)) (ds : List D) : Res D := if ds.length = np then (match f (startE n ds) with
  | .ok (d, _) => .ok d
  | .er c fs r => .er c fs r
  | .bad => .bad) else .bad
def BodyNew (P : Program) (w : World) (K : PySem.W.Frag) (mg : Str → Option Value) (base : Heap) (k : Nat) (N : List Str) (qual : Str) (scope : Scope) (f : Addr) (body : List Stmt) (den : En → Res (D × En)) : Prop :=
  ∀ (cdv : Value) (A : Around) (outer : List Env) (s : Shared) (H : Hp) (E : XK), Room k (A.deeper (PyProof.Rows.envOfC qual scope s.heap.objs.size f cdv)) →
    DNs (cxOf (L2.CX P w) P w K mg base N qual scope f cdv A outer s H E) (fun c d _ H' => E c d H') body den
section
variable (P : Program) (w : World) (K : PySem.W.Frag) (mg : Str → Option Value) (base : Heap)
structure CalN (k : Nat) (f : Addr) (den : List D → Res D) : Prop where
  ex : ∃ (fd : FuncData) (ps : List Str) (ds : List Value) (dvs : List V) (dds : List D) (den0 : List D → Res D), FnOk P w K mg base (L2.CX P w) k f fd ps (spN K mg den0) ∧ Binds K fd ps ds ∧ Vals dvs ds ∧ (∀ F, repL K mg F dds dvs) ∧ den = fun as => den0 (as ++ dds)
  kp : PySem.W.keepIn K (.ref f) = true
end
section
variable {P : Program} {w : World} {K : PySem.W.Frag} {mg : Str → Option Value} {base : Heap} {x qual : Str} {params : Arguments} {body : List Stmt} {scope : Scope} {dvs : List V} {kws : List (Str × V)} {f : Addr} {fd : FuncData} {N ps : List Str} {k : Nat} {den : En → Res (D × En)}
theorem fn_N (F : FunD K x qual params body scope dvs kws f fd) (S : FnScope N ps scope) (b : BodyNew P w K mg base k N qual scope f body den) : FnOk P w K mg base (L2.CX P w) (k + 1) f fd ps (spN K mg (runN N.length ps.length den)) := by
  refine F.ok S (fun vs H Q E h => ?_) (fun cdv A outer s H vs Q E hr h => ?_)
  · obtain ⟨F', ds, _, r, p⟩ := h
    rw [repL_len r]
    unfold runN at p
    split at p
    · assumption
    · exact p.elim
  · obtain ⟨F', ds, s', r, p⟩ := h
    obtain ⟨t, hp, he⟩ := (b cdv A outer s H E hr).ex
    refine ⟨t, hp, he ⟨F', H, []⟩ F' H _ _ _ (rel_start s' r) ?_⟩
    unfold runN at p
    split at p
    · cases q : den (startE N.length ds) with
      | ok a =>
        rw [q] at p
        rintro v σ' F1 H1 R1 s1 ⟨pa, rfl, h1, h2, h3, h4, h5⟩
        exact p pa F1 H1 ⟨fun a o _ h => R1.keep a o (by simp) h, s1, R1.fh, R1.fresh⟩ h1 h2 h5
      | er c fs r' =>
        rw [q] at p
        exact fun C od σ' F1 H1 m R1 s1 x => p C od F1 H1 m ⟨fun a o _ h => R1.keep a o (by simp) h, s1, R1.fh, R1.fresh⟩ x
      | bad =>
        rw [q] at p
        exact p.elim
    · exact p.elim
theorem cal_N (F : FunD K x qual params body scope [] [] f fd) (S : FnScope N ps scope) (b : BodyNew P w K mg base k N qual scope f body den)
    (h : ∀ (kV doc pm : Value) (an : Option Addr) (cdv ct : Value) (us : List Value), us.length = ps.length → bindArgs (PySem.W.fnOf x qual params body scope .none kV doc pm an cdv ct) ⟨us, []⟩ = pure (ps.zip us)) :
    CalN P w K mg base (k + 1) f (runN N.length ps.length den) :=
  ⟨⟨fd, ps, [], [], [], _, fn_N F S b, F.bindsN h, .nil, fun _ => rfl, by funext as; rw [List.append_nil]⟩, F.kp⟩
end
def fstR : Res (D × D) → Res D
  | .ok p => .ok p.1
  | .er c fs r => .er c fs r
  | .bad => .bad
def eCallBN (den : D → List D → Res (D × D)) (fe : En → Res (D × En)) : En → Res (D × En) := fun r => (fe r).bind fun p => callR (fstR (den p.1 [])) p.2
section
variable {X : Cx} {W : WX} {k j : Nat} {f C : Addr} {x : Str} {p pos : Pos} {e : Expr} {es : List Expr} {fa : En → Res (List D × En)} {fe : En → Res (D × En)} {den : List D → Res D} {denB : D → List D → Res (D × D)}
theorem dn_callN (F : CalN X.prog X.w X.K X.mg X.base k f den) (tk : Takes X W) (hr : Room j X.A) (hk : k ≤ j) (hg : Gl X x) (hm : X.mg x = some (.ref f)) (ha : DA X W (e :: es) fa) (hdb : (x == ("__debug__" : Str)) = false := by decide)
    (he : starEach (e :: es) X.env = (false, eval e X.env) :: starEach es X.env := by rfl) (hpl : (backTo pos (starEach es X.env)).any (·.1) = false := by rfl) : DN X W (.Call (.Name x p) (e :: es) [] pos) (eCall den fa) := by
  obtain ⟨fd, ps, ds, dvs, dds, den0, G, hb, hd, hdd, rfl⟩ := F.ex
  obtain ⟨t, pa, ea⟩ := ha.ex
  refine ⟨_, pe_callSD (E := WE W) G (hr.mono hk) hg hm F.kp hb hd (fun σ => passAt tk σ) pa hdb he hpl, fun B F H r σ Q R p => ea.to R p fun as r1 vs F1 H1 R1 s1 x1 p1 => ?_⟩
  refine ⟨F1, as ++ dds, R1.fh, repL_app x1 (hdd F1), ?_⟩
  cases q : den0 (as ++ dds) with
  | ok d =>
    simp only [q] at p1
    exact fun pa F' H' g h1 h2 h3 => p1 _ F' H' (R1.growN g) g.f ⟨pa, rfl, h1, (R1.new_ne h2).1, (R1.new_ne h2).2, R1.loose_new h2, h3⟩
  | er c fs r' =>
    simp only [q] at p1
    exact fun C od F' H' m g x => p1 C od σ F' H' m (R1.growN g) g.f x
  | bad =>
    simp only [q] at p1
    exact p1.elim
/-- f(e), e a new object that f may change -/
theorem de_callBN (F : CalB X.prog X.w X.K X.mg X.base k f denB) (tk : Takes X W) (hr : Room j X.A) (hk : k ≤ j) (hg : Gl X x) (hm : X.mg x = some (.ref f)) (ha : DN X W e fe) (hdb : (x == ("__debug__" : Str)) = false := by decide)
    (he : starEach [e] X.env = (false, eval e X.env) :: starEach [] X.env := by rfl) (hpl : (backTo pos (starEach [] X.env)).any (·.1) = false := by rfl) : DE X W (.Call (.Name x p) [e] [] pos) (eCallBN denB fe) := by
  obtain ⟨fd, ps, ds, dvs, dds, den0, G, hb, hd, hdd, rfl⟩ := F.ex
  obtain ⟨t, pa, ea⟩ := ha.ex
  refine ⟨_, pe_callSD (E := WE W) G (hr.mono hk) hg hm F.kp hb hd (fun σ => passAt tk σ) (pa_cons pa pa_nil he) hdb he hpl, fun B F H r σ Q R p => ea.to R p fun d r1 v F1 H1 R1 s1 x1 p1 => ?_⟩
  obtain ⟨pa, rfl, hF, hB, nb, hl, ho⟩ := x1
  refine ⟨F1, pa, d, dds, dvs, rfl, R1.fh, hF, ho, hdd F1, ?_⟩
  have p2 : Po X.K X.mg W B F1 σ (rE X.K X.mg) Q (callR (fstR (den0 d dds)) r1) := p1
  cases q : den0 d dds with
  | ok dd =>
    obtain ⟨d', d1⟩ := dd
    rw [q] at p2
    exact fun v F' H' g hp' ho' x => p2 v F' H' (R1.growL hB nb hl g) g.f x
  | er c fs r' =>
    rw [q] at p2
    exact fun C od F' H' mm g hz x => p2 C od σ F' H' mm (R1.growL hB nb hl g) g.f x
  | bad =>
    rw [q] at p2
    exact p2.elim
end
end Dl

set_option Elab.async false
set_option linter.all false
set_option maxRecDepth 100000
set_option maxHeartbeats 4000000
namespace Dl
open PySem L2
section
variable {P : Program} {w : World} {K : PySem.W.Frag} {mg : Str → Option Value} {base : Heap} {N : List Str} {qual : Str} {scope : Scope} {f : Addr} {cdv : Value} {A : Around} {outer : List Env} {s : Shared} {H : Hp} {E : XK}
theorem tk_def : Takes (cxOf (L2.CX P w) P w K mg base N qual scope f cdv A outer s H E) (fun c d _ H' => E c d H') := takes_of (X := cxOf (L2.CX P w) P w K mg base N qual scope f cdv A outer s H E) rfl rfl rfl rfl
theorem own_def : PassesOwn (model P w) (cxOf (L2.CX P w) P w K mg base N qual scope f cdv A outer s H E).A (cxOf (L2.CX P w) P w K mg base N qual scope f cdv A outer s H E).env (cxOf (L2.CX P w) P w K mg base N qual scope f cdv A outer s H E).xe :=
  passes_of (X := cxOf (L2.CX P w) P w K mg base N qual scope f cdv A outer s H E) (K := fun e s'' => L2.CX P w outer H s E e s'') (E₁ := fun e' s'' => L2.CX P w outer H s E e' s'') rfl
end
theorem Room.u1 {k : Nat} {A : Around} (r : Room k A) : A.units + 1 < cLine := by have := r.un; omega
def sPar (i j : Nat) (fa : En → Res (List D × En)) : En → SR := fun r => sBind (fa r) fun p => match p.1 with
  | [a, b] => .nx ((p.2.set i (some (.fz a))).set j (some (.fz b)))
  | _ => .bad
section
variable {X : Cx} {W : WX}
theorem ds_par {i j : Nat} {x y : Str} {a b : Expr} {fa : En → Res (List D × En)} {px py pt pos : Pos} {kt k2 pt2} (hc : X.calm = true) (hN : X.N.Nodup) (ha : DA X W [a, b] fa) (hij : i ≠ j := by decide) (hi : X.N[i]? = some x := by rfl) (hj : X.N[j]? = some y := by rfl)
    (hx : X.env.scope.names.lookup x = some .local := by rfl) (hy : X.env.scope.names.lookup y = some .local := by rfl)
    (hw : swappedStores [.Tuple [.Name x px, .Name y py] kt pt] (.Tuple [a, b] k2 pt2) X.env = pure (some [x, y]) := by rfl)
    (hs : swapsWithSole [.Tuple [.Name x px, .Name y py] kt pt] (.Tuple [a, b] k2 pt2) pos.line X.env = pure false := by rfl) :
    DS X W (.Assign [.Tuple [.Name x px, .Name y py] kt pt] (.Tuple [a, b] k2 pt2) pos) (sPar i j fa) := by
  obtain ⟨t, hp, he⟩ := ha.ex
  refine ⟨_, ps_par hc hN hi hj hij hx hy hp hw hs, fun B F H r σ Z R p => he.toS R p fun ds r' vs F' H' R' s x q => ?_⟩
  cases ds with
  | nil => exact q.elim
  | cons d1 ds =>
    cases ds with
    | nil => exact q.elim
    | cons d2 ds =>
      cases ds with
      | nil =>
        obtain ⟨v1, _, rfl, x1, v2, _, rfl, x2, rfl⟩ := x
        exact ⟨v1, v2, rfl, q _ F' H' ((R'.setF x1).setF x2) (Same.refl F')⟩
      | cons _ _ => exact q.elim
end
end Dl

set_option Elab.async false
set_option linter.all false
set_option maxRecDepth 100000
set_option maxHeartbeats 4000000
namespace Dl
open PySem L2
/-- no exception leaves the law -/
theorem no_exc {P : Program} {w : World} {K : PySem.W.Frag} {mg : Str → Option Value} {base : Heap} {k : Nat} {f : Addr} {fd : FuncData} {ps : List Str} {sp : Sp} (F : FnOk P w K mg base (L2.CX P w) k f fd ps sp) : FnOk P w K mg base L2.CX0 k f fd ps (fun vs H Q _ => sp vs H Q fun _ _ _ => False) :=
  ⟨fun vs H Q _ h => F.len vs H Q _ h, fun A outer s H args us vs Q _ hr he hb hv hs => codeAny_mono (F.run A outer s H args us vs Q _ hr he hb hv hs) fun r s' hq => by
    cases r with
    | error e =>
      obtain ⟨_, _, _, _, _, _, _, _, _, _, _, _, z⟩ := hq
      exact z.elim
    | ok fl =>
      cases fl with
      | ret u => exact hq
      | next => exact hq.elim
      | brk => exact hq.elim
      | cont => exact hq.elim⟩
/-- a law's def, from its body -/
theorem law_fn {P : Program} {w : World} {K : PySem.W.Frag} {mg : Str → Option Value} {base : Heap} {x qual : Str} {params : Arguments} {body : List Stmt} {scope : Scope} {f : Addr} {fd : FuncData} {N : List Str} {p : Str} {k : Nat} {den : En → SR}
    (F : FunD K x qual params body scope [] [] f fd) (S : FnScope N [p] scope) (b : BodyOk P w K mg base k N qual scope f body den) : FnOk P w K mg base L2.CX0 (k + 1) f fd [p] (fun vs H Q _ => spD K mg (runF N.length 1 den) vs H Q fun _ _ _ => False) := no_exc (fn_D F S b)
end Dl

set_option Elab.async false
set_option linter.all false
set_option maxRecDepth 100000
set_option maxHeartbeats 4000000
namespace Dl
open PySem L2
theorem nX_ok {α : Type} (a : α) : noX (.ok a) = .ok a := rfl
/-- a comprehension that changes nothing but its own names -/
theorem lc_map {g : D → En → Res En} {t : En → Res (Bool × En)} {e : En → Res (D × En)} {vs : List Nat} {r : En} {p : D → Bool} {z : D → D} : ∀ {ds acc : List D},
    (∀ d ∈ ds, ∃ r1 r2 r3, g d r = .ok r1 ∧ t r1 = .ok (p d, r2) ∧ (p d = true → e r2 = .ok (z d, r3) ∧ wipeE r3 vs = r) ∧ (p d = false → wipeE r2 vs = r)) →
    lcLoop g t e vs ds r acc = .ok (acc ++ (ds.filter p).map z, r)
  | [], acc, _ => by simp [lcLoop]
  | d :: ds, acc, h => by
    obtain ⟨r1, r2, r3, h1, h2, h3, h4⟩ := h d (by simp)
    have ih := fun acc => lc_map (acc := acc) (fun x hx => h x (List.mem_cons_of_mem _ hx))
    unfold lcLoop
    rw [h1, nX_ok, bind_ok, h2, nX_ok, bind_ok]
    cases q : p d with
    | true =>
      obtain ⟨h5, h6⟩ := h3 q
      simp only
      rw [h5, nX_ok, bind_ok]
      simp only [h6]
      rw [ih]
      simp [List.filter_cons, q]
    | false =>
      simp only [h4 q]
      rw [ih]
      simp [List.filter_cons, q]
theorem elc_map {s : En → Res (List D × En)} {g : D → En → Res En} {t : En → Res (Bool × En)} {e : En → Res (D × En)} {vs : List Nat} {r r0 : En} {p : D → Bool} {z : D → D} {ds : List D} (hs : s r = .ok (ds, r0)) (hl : ds.length ≤ 100000)
    (h : ∀ d ∈ ds, ∃ r1 r2 r3, g d (wipeE r0 vs) = .ok r1 ∧ t r1 = .ok (p d, r2) ∧ (p d = true → e r2 = .ok (z d, r3) ∧ wipeE r3 vs = wipeE r0 vs) ∧ (p d = false → wipeE r2 vs = wipeE r0 vs)) :
    eLc s g t e vs r = .ok (.lst ((ds.filter p).map z), restore r0 vs (wipeE r0 vs)) := by
  unfold eLc
  rw [hs, bind_ok]
  simp only [if_pos hl]
  rw [lc_map h, nX_ok, bind_ok]
  rfl
/-- by an invariant -/
theorem for_ind {g : D → En → Res En} {b : En → SR} {I : List D → En → Prop} : ∀ {ds : List D} {r : En}, I ds r → (∀ d ds r, I (d :: ds) r → ∃ r1 r2, g d r = .ok r1 ∧ (b r1 = .nx r2 ∨ b r1 = .ct r2) ∧ I ds r2) → ∃ r', forD g b ds r = .nx r' ∧ I [] r'
  | [], r, h, _ => ⟨r, rfl, h⟩
  | d :: ds, r, h, k => by
    obtain ⟨r1, r2, h1, h2, h3⟩ := k d ds r h
    obtain ⟨r', e, i⟩ := for_ind h3 k
    refine ⟨r', ?_, i⟩
    unfold forD
    rw [h1]
    rcases h2 with h2 | h2
    · simp only [sBind, h2]
      exact e
    · simp only [sBind, h2]
      exact e
/-- sorted and of the same things: the same -/
theorem perm_eq {α : Type} {le : α → α → Bool} : ∀ {l m : List α}, l.Perm m → (∀ a ∈ l, ∀ b ∈ l, le a b = true → le b a = true → a = b) → l.Pairwise (fun a b => le a b = true) → m.Pairwise (fun a b => le a b = true) → l = m
  | [], m, h, _, _, _ => (List.nil_perm.mp h).symm ▸ rfl
  | a :: l, m, h, an, h1, h2 => by
    cases m with
    | nil => exact absurd h.symm (by simp)
    | cons b m =>
      have ha : a ∈ b :: m := h.mem_iff.mp (by simp)
      have hb : b ∈ a :: l := h.mem_iff.mpr (by simp)
      have e : a = b := by
        rcases List.mem_cons.mp ha with e | ha'
        · exact e
        · rcases List.mem_cons.mp hb with e | hb'
          · exact e.symm
          · exact an a (by simp) b hb ((List.pairwise_cons.mp h1).1 b hb') ((List.pairwise_cons.mp h2).1 a ha')
      subst e
      rw [perm_eq (List.Perm.cons_inv h) (fun x hx y hy => an x (List.mem_cons_of_mem _ hx) y (List.mem_cons_of_mem _ hy)) (List.pairwise_cons.mp h1).2 (List.pairwise_cons.mp h2).2]
abbrev leD : D → D → Bool := PySem.W.dataLe false toPy
theorem leD_total (a b : D) : (leD a b || leD b a) = true := by
  have := (PySem.W.sortLe_total (PyProof.Rows.listOrd PyProof.Rows.itemOrd) false fun b => PySem.W.keyToks (toPy b)).total a b
  exact Bool.or_eq_true_iff.mpr this
theorem leD_trans (a b c : D) (h : leD a b = true) (k : leD b c = true) : leD a c = true :=
  (PySem.W.sortLe_total (PyProof.Rows.listOrd PyProof.Rows.itemOrd) false fun b => PySem.W.keyToks (toPy b)).trans a b c h k
theorem leD_anti {a b : D} (h : leD a b = true) (k : leD b a = true) : PySem.W.keyToks (toPy a) = PySem.W.keyToks (toPy b) := by
  have h1 : (PyProof.Rows.listOrd PyProof.Rows.itemOrd).blt (PySem.W.keyToks (toPy b)) (PySem.W.keyToks (toPy a)) = false := by
    have z : (!(PyProof.Rows.listOrd PyProof.Rows.itemOrd).blt (PySem.W.keyToks (toPy b)) (PySem.W.keyToks (toPy a))) = true := h
    simpa using z
  have h2 : (PyProof.Rows.listOrd PyProof.Rows.itemOrd).blt (PySem.W.keyToks (toPy a)) (PySem.W.keyToks (toPy b)) = false := by
    have z : (!(PyProof.Rows.listOrd PyProof.Rows.itemOrd).blt (PySem.W.keyToks (toPy a)) (PySem.W.keyToks (toPy b))) = true := k
    simpa using z
  exact (PyProof.Rows.listOrd PyProof.Rows.itemOrd).total _ _ h2 h1
theorem sort_eq {l m : List D} (h : l.Perm m) (an : ∀ a ∈ l, ∀ b ∈ l, PySem.W.keyToks (toPy a) = PySem.W.keyToks (toPy b) → a = b) : l.mergeSort leD = m.mergeSort leD := by
  have p1 := List.mergeSort_perm l leD
  have p2 := List.mergeSort_perm m leD
  refine perm_eq (le := leD) (p1.trans (h.trans p2.symm)) (fun a ha b hb h1 h2 => an a (p1.mem_iff.mp ha) b (p1.mem_iff.mp hb) (leD_anti h1 h2)) ?_ ?_
  · exact List.pairwise_mergeSort leD_trans leD_total l
  · exact List.pairwise_mergeSort leD_trans leD_total m
end Dl

set_option Elab.async false
set_option linter.all false
set_option maxRecDepth 100000
set_option maxHeartbeats 4000000
namespace Dl
open PySem L2
section
variable {α β : Type} {r r1 : En} {i j n np : Nat} {f g h : En → Res (D × En)} {t u : En → Res (Bool × En)} {fa fb fc : En → Res (BV × En)} {as : En → Res (List D × En)} {s1 s2 : En → SR} {d d0 : D} {ds : List D}
@[simp] theorem pbind_ok (a : α) (k : α → Res β) : (Res.ok a).bind k = k a := rfl
@[simp] theorem pbind_bad (k : α → Res β) : (Res.bad : Res α).bind k = .bad := rfl
@[simp] theorem psbind_ok (a : α) (k : α → SR) : sBind (Res.ok a) k = k a := rfl
@[simp] theorem pvar : eVar i r = match r[i]? with
  | some (some (.fz d)) => .ok (d, r)
  | some (some (.ow d)) => .ok (d, r.set i (some (.fz d)))
  | _ => .bad := rfl
@[simp] theorem pmv : eMv i r = match r[i]? with
  | some (some (.ow d)) => .ok (d, r.set i none)
  | _ => .bad := rfl
@[simp] theorem pbvar : bVar i r = match r[i]? with
  | some (some _) => .ok (.sl i, r)
  | _ => .bad := rfl
@[simp] theorem pc : eC d r = .ok (d, r) := rfl
@[simp] theorem pbof : bOf f r = (f r).bind fun p => .ok (.fz p.1, p.2) := rfl
@[simp] theorem pgetF : getB (.fz d) r = .ok d := rfl
@[simp] theorem pgetS : getB (.sl i) r = match r[i]? with
  | some (some s) => .ok s.d
  | _ => .bad := rfl
@[simp] theorem pliftS (a : α) : liftR (some a) = .ok a := rfl
@[simp] theorem pliftN : liftR (none : Option α) = .bad := rfl
@[simp] theorem pbin {q : D → D → Option D} : eBin q fa fb r = (fa r).bind fun p => (fb p.2).bind fun z => (getB p.1 z.2).bind fun x => (getB z.1 z.2).bind fun y => (liftR (q x y)).bind fun w => .ok (w, z.2) := rfl
@[simp] theorem pun {q : D → Option D} : eUn q fa r = (fa r).bind fun p => (getB p.1 p.2).bind fun x => (liftR (q x)).bind fun w => .ok (w, p.2) := rfl
@[simp] theorem ptofe : tOfE f r = (f r).bind fun p => match p.1 with
  | .bl c => .ok (c, p.2)
  | _ => .bad := rfl
@[simp] theorem ptand : tAndD t u r = (t r).bind fun p => match p.1 with
  | true => u p.2
  | false => .ok (false, p.2) := rfl
@[simp] theorem ptor : tOrD t u r = (t r).bind fun p => match p.1 with
  | true => .ok (true, p.2)
  | false => u p.2 := rfl
@[simp] theorem ptnot : tNotD t r = (t r).bind fun p => .ok (!p.1, p.2) := rfl
@[simp] theorem ptyes : tYesD r = .ok (true, r) := rfl
@[simp] theorem peif : eIf t f g r = (t r).bind fun p => match p.1 with
  | true => f p.2
  | false => g p.2 := rfl
@[simp] theorem panil : aNil r = .ok ([], r) := rfl
@[simp] theorem pacons : aCons f as r = (f r).bind fun p => (as p.2).bind fun q => .ok (p.1 :: q.1, q.2) := rfl
@[simp] theorem plst : eLst as r = (as r).bind fun p => if p.1.length ≤ 1000 then .ok (.lst p.1, p.2) else .bad := rfl
@[simp] theorem ptup : eTup as r = (as r).bind fun p => if p.1.length ≤ 1000 then .ok (.tup p.1, p.2) else .bad := rfl
@[simp] theorem pdict0 : eDict0 r = .ok (.dk [], r) := rfl
@[simp] theorem pnop : sNop r = .nx r := rfl
@[simp] theorem pseq : sSeq s1 s2 r = match s1 r with
  | .nx r' => s2 r'
  | x => x := rfl
@[simp] theorem pret : sRet f r = sBind (f r) fun p => .rt p.1 p.2 := rfl
@[simp] theorem pexpr : sExpr f r = sBind (f r) fun p => .nx p.2 := rfl
@[simp] theorem psif : sIf t s1 s2 r = sBind (t r) fun p => match p.1 with
  | true => s1 p.2
  | false => s2 p.2 := rfl
@[simp] theorem pasg {q : D → En → Res En} : sAsg f q r = sBind (f r) fun p => sBind (q p.1 p.2) .nx := rfl
@[simp] theorem pset : sSet i f r = sBind (f r) fun p => .nx (p.2.set i (some (.fz p.1))) := rfl
@[simp] theorem pown : sOwn i f r = sBind (f r) fun p => .nx (p.2.set i (some (.ow p.1))) := rfl
@[simp] theorem pgnm : gNm i d r = .ok (r.set i (some (.fz d))) := rfl
@[simp] theorem pgsnil : gsNil [] r = .ok r := rfl
@[simp] theorem pgscons {q : D → En → Res En} {qs : List D → En → Res En} : gsCons q qs (d :: ds) r = (q d r).bind fun r1 => qs ds r1 := rfl
@[simp] theorem pgtp {qs : List D → En → Res En} : gTp n qs (.tup ds) r = if ds.length = n then qs ds r else .bad := rfl
@[simp] theorem psfor {s : En → Res (List D × En)} {q : D → En → Res En} : sFor s q s1 r = sBind (s r) fun p => forD q s1 p.1 p.2 := rfl
@[simp] theorem piseq : iSeq f r = (f r).bind fun p => (liftR (seqD p.1)).bind fun ds => .ok (ds, p.2) := rfl
@[simp] theorem pseqL : seqD (.lst ds) = some ds := rfl
@[simp] theorem pseqT : seqD (.tup ds) = some ds := rfl
@[simp] theorem pseqS {z : Str} : seqD (.str z) = some (charsD z) := rfl
@[simp] theorem pirg1 : iRg1 as r = (as r).bind fun p => match p.1 with
  | [.int b] => if -(2 ^ 62) ≤ b ∧ b < 2 ^ 62 then .ok (rngD 0 b, p.2) else .bad
  | _ => .bad := rfl
@[simp] theorem pien : iEn as r = (as r).bind fun p => match p.1 with
  | [.lst es] => .ok (enumD es, p.2)
  | _ => .bad := rfl
@[simp] theorem pient : iEnT as r = (as r).bind fun p => match p.1 with
  | [.tup es] => .ok (enumD es, p.2)
  | _ => .bad := rfl
@[simp] theorem palt {x y : En → Res α} : eAlt x y r = match x r with
  | .bad => y r
  | z => z := rfl
@[simp] theorem pcall {den : List D → Res D} : eCall den as r = (as r).bind fun p => callR (den p.1) p.2 := rfl
@[simp] theorem pcallR : callR (.ok d) r = .ok (d, r) := rfl
@[simp] theorem pcallB {den : D → List D → Res (D × D)} : eCallB den i as r = if isMine r i = true then (as r).bind fun p => atMine p.2 i fun s => callRB (den s.d p.1) i s p.2 else .bad := rfl
@[simp] theorem pcallRB {s : Sl} {d1 : D} : callRB (.ok (d, d1)) i s r = .ok (d, r.set i (some (s.put d1))) := rfl
@[simp] theorem pismine : isMine r i = match r[i]? with
  | some (some s) => s.mine
  | _ => false := rfl
@[simp] theorem patmine {k : Sl → Res α} : atMine r i k = match r[i]? with
  | some (some s) => if s.mine = true then k s else .bad
  | _ => .bad := rfl
@[simp] theorem patmineS {k : Sl → SR} : atMineS r i k = match r[i]? with
  | some (some s) => if s.mine = true then k s else .bad
  | _ => .bad := rfl
@[simp] theorem pmineF : (Sl.fz d).mine = false := rfl
@[simp] theorem pmineO : (Sl.ow d).mine = true := rfl
@[simp] theorem pmineB : (Sl.bo d).mine = true := rfl
@[simp] theorem pdF : (Sl.fz d).d = d := rfl
@[simp] theorem pdO : (Sl.ow d).d = d := rfl
@[simp] theorem pdB : (Sl.bo d).d = d := rfl
@[simp] theorem pputO : (Sl.ow d).put d0 = .ow d0 := rfl
@[simp] theorem pputB : (Sl.bo d).put d0 = .bo d0 := rfl
@[simp] theorem porD {q k : D → D → Option D} {x y : D} : orD q k x y = match q x y with
  | some z => some z
  | none => k x y := rfl
@[simp] theorem porU {q k : D → Option D} {x : D} : orU q k x = match q x with
  | some z => some z
  | none => k x := rfl
@[simp] theorem pmapR {q : D → Option D} : mapR q (.ok d) = match q d with
  | some z => .ok z
  | none => .bad := rfl
@[simp] theorem ptoB {b : Bool} : toB (.bl b) = some (.bl b) := rfl
@[simp] theorem ptoNB {b : Bool} : toNB (.bl b) = some (.bl (!b)) := rfl
@[simp] theorem pownR {c : Str} {q : D → Option D} {den : List D → Res D} : eOwnR c q den f g r = (f r).bind fun p => (g p.2).bind fun z => match z.1 with
  | .ins c' fs => if c' = c then callR (mapR q (den [.ins c' fs, p.1])) z.2 else .bad
  | _ => .bad := rfl
@[simp] theorem pownL {c : Str} {q : D → Option D} {den : List D → Res D} : eOwnL c q den f g r = (f r).bind fun p => (g p.2).bind fun z => match p.1, z.1 with
  | .ins c' fs, .ins c2 gs => if c' = c ∧ c2 = c then callR (mapR q (den [.ins c' fs, .ins c2 gs])) z.2 else .bad
  | _, _ => .bad := rfl
@[simp] theorem pmeth {c m : Str} {den : List D → Res D} : eMeth c m den f as r = (f r).bind fun p => match p.1 with
  | .ins c' fs => if c' = c ∧ hasNo fs m = true then (as p.2).bind fun q => callR (den (.ins c' fs :: q.1)) q.2 else .bad
  | _ => .bad := rfl
@[simp] theorem pmake {c : Str} {den : D → List D → Res (D × D)} : eMake c den as r = (as r).bind fun p => match den (.ins c []) p.1 with
  | .ok (.non, d1) => .ok (d1, p.2)
  | .er c fs _ => .er c fs p.2
  | _ => .bad := rfl
@[simp] theorem pcallBN {den : D → List D → Res (D × D)} : eCallBN den f r = (f r).bind fun p => callR (fstR (den p.1 [])) p.2 := rfl
@[simp] theorem pfstR {p : D × D} : fstR (.ok p) = .ok p.1 := rfl
@[simp] theorem pand : eAnd f g r = (f r).bind fun p => match p.1 with
  | .bl true => g p.2
  | .bl false => .ok (.bl false, p.2)
  | _ => .bad := rfl
@[simp] theorem por : eOr f g r = (f r).bind fun p => match p.1 with
  | .bl true => .ok (.bl true, p.2)
  | .bl false => g p.2
  | _ => .bad := rfl
@[simp] theorem pnot : eNot f r = (f r).bind fun p => match p.1 with
  | .bl b => .ok (.bl (!b), p.2)
  | _ => .bad := rfl
@[simp] theorem ppar : sPar i j as r = sBind (as r) fun p => match p.1 with
  | [a, b] => .nx ((p.2.set i (some (.fz a))).set j (some (.fz b)))
  | _ => .bad := rfl
@[simp] theorem pnseq : nSeq s1 f r = match s1 r with
  | .nx r' => f r'
  | .er c fs r' => .er c fs r'
  | _ => .bad := rfl
end
end Dl

set_option Elab.async false
set_option linter.all false
set_option maxRecDepth 100000
set_option maxHeartbeats 4000000
namespace Dl
open PySem L2
/-! ### plain data: fine ones, equal ones -/
theorem tpL : ∀ ds : List D, toPyL ds = ds.map toPy
  | [] => rfl
  | d :: ds => by rw [toPyL, tpL ds]; rfl
theorem isDataL_all : ∀ ds : List D, isDataL ds = ds.all isData
  | [] => rfl
  | d :: ds => by rw [isDataL, isDataL_all ds]; rfl
theorem canAll : ∀ ds : List PyData, PyData.canLayAll0 ds = ds.all PyData.canLay0
  | [] => rfl
  | d :: ds => by rw [PyData.canLayAll0, canAll ds]; rfl
theorem depthAll_le {k : Nat} : ∀ {ds : List PyData}, (∀ d ∈ ds, d.depth ≤ k) → PyData.depthAll ds ≤ k
  | [], _ => by rw [PyData.depthAll]; exact Nat.zero_le _
  | d :: ds, h => by
    rw [PyData.depthAll]
    exact Nat.max_le.mpr ⟨h d (by simp), depthAll_le fun x hx => h x (List.mem_cons_of_mem _ hx)⟩
/-- data of at most k levels -/
structure Fine (k : Nat) (x : D) : Prop where
  d : isData x = true
  c : (toPy x).canLay0 = true
  l : (toPy x).depth ≤ k
theorem Fine.ok {k : Nat} {d : D} (h : Fine k d) (hk : k ≤ 64 := by omega) : okPy d = true := by
  unfold okPy SeqAt.shaped
  rw [h.d, h.c]
  simp only [Bool.true_and, decide_eq_true_eq]
  exact Nat.le_trans h.l hk
theorem Fine.mono {j k : Nat} {d : D} (h : Fine j d) (hk : j ≤ k) : Fine k d := ⟨h.d, h.c, Nat.le_trans h.l hk⟩
theorem fine_int {i : Int} : Fine 0 (.int i) := ⟨rfl, rfl, Nat.le_refl _⟩
theorem fine_bl {i : Bool} : Fine 0 (.bl i) := ⟨rfl, rfl, Nat.le_refl _⟩
theorem fine_non : Fine 0 .non := ⟨rfl, rfl, Nat.le_refl _⟩
theorem fine_str {x : Str} (h : PyData.strOk x = true) : Fine 0 (.str x) := ⟨rfl, by rw [toPy, PyData.canLay0]; exact h, by rw [toPy, PyData.depth]; exact Nat.le_refl _⟩
theorem fine_lst {k : Nat} {ds : List D} (h : ∀ d ∈ ds, Fine k d) : Fine (k + 1) (.lst ds) where
  d := by rw [isData, isDataL_all, List.all_eq_true]; exact fun x hx => (h x hx).d
  c := by
    rw [toPy, PyData.canLay0, canAll, List.all_eq_true, tpL]
    intro x hx
    obtain ⟨y, hy, rfl⟩ := List.mem_map.mp hx
    exact (h y hy).c
  l := by
    rw [toPy, PyData.depth, tpL]
    refine Nat.succ_le_succ (depthAll_le fun x hx => ?_)
    obtain ⟨y, hy, rfl⟩ := List.mem_map.mp hx
    exact (h y hy).l
theorem fine_tup {k : Nat} {ds : List D} (h : ∀ d ∈ ds, Fine k d) : Fine (k + 1) (.tup ds) where
  d := by rw [isData, isDataL_all, List.all_eq_true]; exact fun x hx => (h x hx).d
  c := by
    rw [toPy, PyData.canLay0, canAll, List.all_eq_true, tpL]
    intro x hx
    obtain ⟨y, hy, rfl⟩ := List.mem_map.mp hx
    exact (h y hy).c
  l := by
    rw [toPy, PyData.depth, tpL]
    refine Nat.succ_le_succ (depthAll_le fun x hx => ?_)
    obtain ⟨y, hy, rfl⟩ := List.mem_map.mp hx
    exact (h y hy).l
mutual
/-- no truths in it -/
def strictD : D → Bool
  | .non => true
  | .int _ => true
  | .str _ => true
  | .lst ds => strictL ds
  | .tup ds => strictL ds
  | _ => false
def strictL : List D → Bool
  | [] => true
  | d :: ds => strictD d && strictL ds
end
theorem strictL_all : ∀ ds : List D, strictL ds = ds.all strictD
  | [] => rfl
  | d :: ds => by rw [strictL, strictL_all ds]; rfl
mutual
theorem eqv_iff : ∀ (a b : D), strictD a = true → strictD b = true → (PyData.eqv (toPy a) (toPy b) = true ↔ a = b)
  | .non, b, _, hb => by cases b <;> first | (cases hb; done) | simp [toPy, PyData.eqv]
  | .int i, b, _, hb => by cases b <;> first | (cases hb; done) | simp [toPy, PyData.eqv]
  | .str x, b, _, hb => by cases b <;> first | (cases hb; done) | simp [toPy, PyData.eqv]
  | .lst ds, b, ha, hb => by
    cases b with
    | lst es =>
      rw [strictD] at ha hb
      rw [toPy, toPy, PyData.eqv, eqvL_iff ds es ha hb]
      simp
    | _ => first | (cases hb; done) | simp [toPy, PyData.eqv]
  | .tup ds, b, ha, hb => by
    cases b with
    | tup es =>
      rw [strictD] at ha hb
      rw [toPy, toPy, PyData.eqv, eqvL_iff ds es ha hb]
      simp
    | _ => first | (cases hb; done) | simp [toPy, PyData.eqv]
  | .bl _, _, ha, _ => by cases ha
  | .dk _, _, ha, _ => by cases ha
  | .dt _, _, ha, _ => by cases ha
  | .ins _ _, _, ha, _ => by cases ha
  | .ty _, _, ha, _ => by cases ha
  | .gl _, _, ha, _ => by cases ha
  | .scr _, _, ha, _ => by cases ha
theorem eqvL_iff : ∀ (a b : List D), strictL a = true → strictL b = true → (PyData.eqvAll (toPyL a) (toPyL b) = true ↔ a = b)
  | [], [], _, _ => by simp [toPyL, PyData.eqvAll]
  | [], _ :: _, _, _ => by simp [toPyL, PyData.eqvAll]
  | _ :: _, [], _, _ => by simp [toPyL, PyData.eqvAll]
  | x :: xs, y :: ys, ha, hb => by
    rw [strictL, Bool.and_eq_true] at ha hb
    rw [toPyL, toPyL, PyData.eqvAll, Bool.and_eq_true, eqv_iff x y ha.1 hb.1, eqvL_iff xs ys ha.2 hb.2]
    simp
end
/-- == of fine data without truths -/
theorem eqD_iff {a b : D} (ha : okPy a = true) (hb : okPy b = true) (sa : strictD a = true) (sb : strictD b = true) : ∃ c, eqD a b = some (.bl c) ∧ neD a b = some (.bl (!c)) ∧ (c = true ↔ a = b) := by
  by_cases q : ∃ x y, a = .str x ∧ b = .str y
  · obtain ⟨x, y, rfl, rfl⟩ := q
    exact ⟨decide (x = y), rfl, rfl, by simp⟩
  · refine ⟨PyData.eqv (toPy a) (toPy b), ?_, ?_, eqv_iff a b sa sb⟩
    · unfold eqD
      split
      · exact absurd ⟨_, _, rfl, rfl⟩ q
      · rw [if_pos ⟨ha, hb⟩]
    · unfold neD
      split
      · exact absurd ⟨_, _, rfl, rfl⟩ q
      · rw [if_pos ⟨ha, hb⟩]
theorem eqD_same {a : D} (ha : okPy a = true) (sa : strictD a = true) : eqD a a = some (.bl true) ∧ neD a a = some (.bl false) := by
  obtain ⟨c, h1, h2, h3⟩ := eqD_iff ha ha sa sa
  have e : c = true := h3.mpr rfl
  subst e
  exact ⟨h1, h2⟩
theorem eqD_diff {a b : D} (ha : okPy a = true) (hb : okPy b = true) (sa : strictD a = true) (sb : strictD b = true) (h : a ≠ b) : eqD a b = some (.bl false) ∧ neD a b = some (.bl true) := by
  obtain ⟨c, h1, h2, h3⟩ := eqD_iff ha hb sa sb
  have e : c = false := by
    cases c with
    | false => rfl
    | true => exact absurd (h3.mp rfl) h
  subst e
  exact ⟨h1, h2⟩
/-- x in ds -/
theorem inL_iff {x : D} {ds : List D} (hx : okPy x = true) (hd : okPy (.lst ds) = true) (sx : strictD x = true) (sd : strictD (.lst ds) = true) : ∃ c, inLst x (.lst ds) = some (.bl c) ∧ ninLst x (.lst ds) = some (.bl (!c)) ∧ (c = true ↔ x ∈ ds) := by
  have e1 : inLst x (.lst ds) = if okPy x = true ∧ okPy (.lst ds) = true then some (.bl ((toPyL ds).any fun z => PyData.eqv z (toPy x))) else none := by cases x <;> rfl
  have e2 : ninLst x (.lst ds) = if okPy x = true ∧ okPy (.lst ds) = true then some (.bl (!(toPyL ds).any fun z => PyData.eqv z (toPy x))) else none := by cases x <;> rfl
  rw [if_pos ⟨hx, hd⟩] at e1 e2
  refine ⟨_, e1, e2, ?_⟩
  rw [strictD, strictL_all, List.all_eq_true] at sd
  rw [tpL, List.any_eq_true]
  constructor
  · rintro ⟨z, hz, e⟩
    obtain ⟨y, hy, rfl⟩ := List.mem_map.mp hz
    rw [eqv_iff y x (sd y hy) sx] at e
    subst e
    exact hy
  · intro h
    exact ⟨toPy x, List.mem_map.mpr ⟨x, h, rfl⟩, (eqv_iff x x sx sx).mpr rfl⟩
theorem inL_yes {x : D} {ds : List D} (hx : okPy x = true) (hd : okPy (.lst ds) = true) (sx : strictD x = true) (sd : strictD (.lst ds) = true) (h : x ∈ ds) : inLst x (.lst ds) = some (.bl true) ∧ ninLst x (.lst ds) = some (.bl false) := by
  obtain ⟨c, h1, h2, h3⟩ := inL_iff hx hd sx sd
  have e : c = true := h3.mpr h
  subst e
  exact ⟨h1, h2⟩
theorem inL_no {x : D} {ds : List D} (hx : okPy x = true) (hd : okPy (.lst ds) = true) (sx : strictD x = true) (sd : strictD (.lst ds) = true) (h : x ∉ ds) : inLst x (.lst ds) = some (.bl false) ∧ ninLst x (.lst ds) = some (.bl true) := by
  obtain ⟨c, h1, h2, h3⟩ := inL_iff hx hd sx sd
  have e : c = false := by
    cases c with
    | false => rfl
    | true => exact absurd (h3.mp rfl) h
  subst e
  exact ⟨h1, h2⟩
theorem cut_pre {ds : List D} {k : Nat} (h : k ≤ ds.length) : cutD ds none (some (k : Int)) = ds.take k := by
  unfold cutD
  rw [HT.sIx_nat, HT.sIx_none, Nat.min_eq_left h, List.drop_zero, Nat.sub_zero]
theorem enum_cons {d : D} {ds : List D} {k : Nat} : ((d :: ds).zipIdx k).map (fun q => D.tup [.int q.2, q.1]) = .tup [.int k, d] :: (ds.zipIdx (k + 1)).map (fun q => D.tup [.int q.2, q.1]) := by
  simp [List.zipIdx_cons]
end Dl

set_option Elab.async false
set_option linter.all false
set_option maxRecDepth 100000
set_option maxHeartbeats 4000000
namespace Dl
open PySem L2
theorem map_inj {α β : Type} {f : α → β} (h : ∀ x y, f x = f y → x = y) : ∀ {a b : List α}, a.map f = b.map f → a = b
  | [], [], _ => rfl
  | [], _ :: _, e => by simp at e
  | _ :: _, [], e => by simp at e
  | x :: a, y :: b, e => by
    simp only [List.map_cons, List.cons.injEq] at e
    rw [h x y e.1, map_inj h e.2]
/-! ### moments and clauses -/
abbrev Cl : Type := Str × Str × Int
abbrev eCl (c : Cl) : D := .tup [.str c.1, .str c.2.1, .int c.2.2]
abbrev eMs (ms : List Str) : D := .lst (ms.map .str)
abbrev eCs (cs : List Cl) : D := .lst (cs.map eCl)
abbrev eCal (ms : List Str) (cs : List Cl) : D := .ins "Calendar" [("own_moments", eMs ms), ("own_clauses", eCs cs)]
theorem eCl_inj {a b : Cl} (h : eCl a = eCl b) : a = b := by
  obtain ⟨a1, a2, a3⟩ := a
  obtain ⟨b1, b2, b3⟩ := b
  simp only [eCl, D.tup.injEq, List.cons.injEq, D.str.injEq, D.int.injEq, and_true] at h
  obtain ⟨rfl, rfl, rfl⟩ := h
  rfl
theorem eCl_mem {c : Cl} {cs : List Cl} : eCl c ∈ cs.map eCl ↔ c ∈ cs := by
  constructor
  · intro h
    obtain ⟨d, hd, e⟩ := List.mem_map.mp h
    rw [← eCl_inj e]
    exact hd
  · exact fun h => List.mem_map.mpr ⟨c, h, rfl⟩
theorem str_mem {x : Str} {xs : List Str} : D.str x ∈ xs.map D.str ↔ x ∈ xs := by
  constructor
  · intro h
    obtain ⟨d, hd, e⟩ := List.mem_map.mp h
    cases e
    exact hd
  · exact fun h => List.mem_map.mpr ⟨x, h, rfl⟩
def okC (c : Cl) : Prop := PyData.strOk c.1 = true ∧ PyData.strOk c.2.1 = true
theorem fine_cl {c : Cl} (h : okC c) : Fine 1 (eCl c) := fine_tup fun d hd => by
  simp only [List.mem_cons, List.not_mem_nil, or_false] at hd
  rcases hd with rfl | rfl | rfl
  · exact fine_str h.1
  · exact fine_str h.2
  · exact fine_int
theorem fine_ms {ms : List Str} (h : ∀ x ∈ ms, PyData.strOk x = true) : Fine 1 (eMs ms) := fine_lst fun d hd => by
  obtain ⟨x, hx, rfl⟩ := List.mem_map.mp hd
  exact fine_str (h x hx)
theorem fine_cs {cs : List Cl} (h : ∀ c ∈ cs, okC c) : Fine 2 (eCs cs) := fine_lst fun d hd => by
  obtain ⟨x, hx, rfl⟩ := List.mem_map.mp hd
  exact fine_cl (h x hx)
theorem strict_cl {c : Cl} : strictD (eCl c) = true := rfl
theorem strict_ms {ms : List Str} : strictD (eMs ms) = true := by
  rw [eMs, strictD, strictL_all, List.all_eq_true]
  intro d hd
  obtain ⟨x, _, rfl⟩ := List.mem_map.mp hd
  rfl
theorem strict_cs {cs : List Cl} : strictD (eCs cs) = true := by
  rw [eCs, strictD, strictL_all, List.all_eq_true]
  intro d hd
  obtain ⟨x, _, rfl⟩ := List.mem_map.mp hd
  rfl
theorem eMs_inj {a b : List Str} (h : eMs a = eMs b) : a = b := by
  have e : a.map D.str = b.map D.str := D.lst.inj h
  exact map_inj (fun x y e => D.str.inj e) e
theorem eCs_inj {a b : List Cl} (h : eCs a = eCs b) : a = b := by
  have e : a.map eCl = b.map eCl := D.lst.inj h
  exact map_inj (fun x y e => eCl_inj e) e
/-! ### sorted -/
def sortS (ms : List Str) : List Str := ms.mergeSort fun a b => leD (.str a) (.str b)
def sortC (cs : List Cl) : List Cl := cs.mergeSort fun a b => leD (eCl a) (eCl b)
theorem sortS_map (ms : List Str) : (ms.map D.str).mergeSort leD = (sortS ms).map D.str := (List.map_mergeSort (r := fun a b => leD (.str a) (.str b)) (s := leD) (f := D.str) (fun a _ b _ => rfl)).symm
theorem sortC_map (cs : List Cl) : (cs.map eCl).mergeSort leD = (sortC cs).map eCl := (List.map_mergeSort (r := fun a b => leD (eCl a) (eCl b)) (s := leD) (f := eCl) (fun a _ b _ => rfl)).symm
theorem sortS_perm (ms : List Str) : (sortS ms).Perm ms := List.mergeSort_perm _ _
theorem sortC_perm (cs : List Cl) : (sortC cs).Perm cs := List.mergeSort_perm _ _
theorem key_str {x y : Str} (h : PySem.W.keyToks (toPy (.str x)) = PySem.W.keyToks (toPy (.str y))) : x = y := by
  simp only [toPy, PySem.W.keyToks, List.cons.injEq, Sum.inr.injEq, and_true] at h
  cases x
  cases y
  congr
  exact Array.toList_inj.mp h
theorem key_cl {a b : Cl} (h : PySem.W.keyToks (toPy (eCl a)) = PySem.W.keyToks (toPy (eCl b))) : a = b := by
  obtain ⟨⟨a1⟩, ⟨a2⟩, a3⟩ := a
  obtain ⟨⟨b1⟩, ⟨b2⟩, b3⟩ := b
  simp only [eCl, toPy, toPyL, PySem.W.keyToks, PySem.W.keyToksAll, List.cons_append, List.nil_append, List.cons.injEq, Sum.inr.injEq, Sum.inl.injEq, and_true, true_and] at h
  obtain ⟨h1, h2, h3⟩ := h
  rw [Array.toList_inj.mp h1, Array.toList_inj.mp h2, h3]
theorem sortS_eq {a b : List Str} (h : a.Perm b) : sortS a = sortS b := by
  have e := sort_eq (h.map D.str) fun x hx y hy k => by
    obtain ⟨u, _, rfl⟩ := List.mem_map.mp hx
    obtain ⟨v, _, rfl⟩ := List.mem_map.mp hy
    rw [key_str k]
  rw [sortS_map, sortS_map] at e
  exact map_inj (fun x y e => D.str.inj e) e
theorem sortC_eq {a b : List Cl} (h : a.Perm b) : sortC a = sortC b := by
  have e := sort_eq (h.map eCl) fun x hx y hy k => by
    obtain ⟨u, _, rfl⟩ := List.mem_map.mp hx
    obtain ⟨v, _, rfl⟩ := List.mem_map.mp hy
    rw [key_cl k]
  rw [sortC_map, sortC_map] at e
  exact map_inj (fun x y e => eCl_inj e) e
theorem sortedD_ms {ms : List Str} (h : ∀ x ∈ ms, PyData.strOk x = true) (hl : ms.length ≤ 100000) : sortedD (eMs ms) = some (eMs (sortS ms)) := by
  unfold sortedD eMs
  simp only
  rw [if_pos, sortS_map]
  refine ⟨?_, ?_, ?_, by rw [List.length_map]; exact hl⟩
  · unfold okPyL
    rw [List.all_eq_true]
    intro d hd
    obtain ⟨x, hx, rfl⟩ := List.mem_map.mp hd
    exact (fine_str (h x hx)).ok
  · unfold allAlikeB
    rw [List.all_eq_true]
    intro d hd
    rw [List.all_eq_true]
    intro d' hd'
    simp only [List.map_map, List.mem_map] at hd hd'
    obtain ⟨x, _, rfl⟩ := hd
    obtain ⟨y, _, rfl⟩ := hd'
    rfl
  · unfold sortableB
    rw [Bool.or_eq_true]
    right
    rw [List.all_eq_true]
    intro d hd
    simp only [List.map_map, List.mem_map] at hd
    obtain ⟨x, _, rfl⟩ := hd
    rfl
theorem sortedD_cs {cs : List Cl} (h : ∀ c ∈ cs, okC c) (hl : cs.length ≤ 100000) : sortedD (eCs cs) = some (eCs (sortC cs)) := by
  unfold sortedD eCs
  simp only
  rw [if_pos, sortC_map]
  refine ⟨?_, ?_, ?_, by rw [List.length_map]; exact hl⟩
  · unfold okPyL
    rw [List.all_eq_true]
    intro d hd
    obtain ⟨x, hx, rfl⟩ := List.mem_map.mp hd
    exact (fine_cl (h x hx)).ok
  · unfold allAlikeB
    rw [List.all_eq_true]
    intro d hd
    rw [List.all_eq_true]
    intro d' hd'
    simp only [List.map_map, List.mem_map] at hd hd'
    obtain ⟨x, _, rfl⟩ := hd
    obtain ⟨y, _, rfl⟩ := hd'
    rfl
  · unfold sortableB
    rw [Bool.or_eq_true]
    left
    rw [List.all_eq_true]
    intro d hd
    simp only [List.map_map, List.mem_map] at hd
    obtain ⟨x, _, rfl⟩ := hd
    rfl
end Dl

set_option Elab.async false
set_option linter.all false
set_option maxRecDepth 100000
set_option maxHeartbeats 4000000
namespace Dl
open PySem L2
@[simp] theorem ofs_inj {a b : String} : (Str.ofString a = Str.ofString b) ↔ a = b := by
  constructor
  · intro h
    rw [Str.ofString_eq_toList, Str.ofString_eq_toList] at h
    have h1 : a.toList.map Char.toNat = b.toList.map Char.toNat := List.toArray_inj (Str.mk.inj h)
    have h2 : a.toList = b.toList := map_inj (fun x y e => Char.toNat_inj.mp e) h1
    exact String.toList_inj.mp h2
  · rintro rfl
    rfl
@[simp] theorem ofs_beq {a b : String} : (Str.ofString a == Str.ofString b) = (a == b) := by
  rw [Bool.eq_iff_iff]
  simp
@[simp] theorem pfldset {cs : List Str} {n : Str} {i : Nat} {f : En → Res (D × En)} {r : En} : sFldSet cs n i f r = sBind (f r) fun p => atMineS p.2 i fun s => match s.d with
  | .ins c fs => if c ∈ cs ∧ fs.length < 1000 then .nx (p.2.set i (some (s.put (.ins c (putD n p.1 fs))))) else .bad
  | _ => .bad := rfl
@[simp] theorem pmethB {c m : Str} {den : D → List D → Res (D × D)} {i : Nat} {fa : En → Res (List D × En)} {r : En} : eMethB c m den i fa r = atMine r i fun s0 => match s0.d with
  | .ins c' fs => if c' = c ∧ hasNo fs m = true then (fa r).bind fun q => atMine q.2 i fun s => callRB (den s.d q.1) i s q.2 else .bad
  | _ => .bad := rfl
@[simp] theorem pesl {g : D → Option Int → Option Int → Option D} {fe : En → Res (BV × En)} {fl fh : En → Res (Option Int × En)} {r : En} : eSl g fe fl fh r = (fe r).bind fun p => (fl p.2).bind fun l => (fh l.2).bind fun u => (getB p.1 u.2).bind fun d => (liftR (g d l.1 u.1)).bind fun z => .ok (z, u.2) := rfl
@[simp] theorem pdonone {r : En} : doNone r = .ok (none, r) := rfl
@[simp] theorem pdosome {f : En → Res (D × En)} {r : En} : doSome f r = (f r).bind fun p => match p.1 with
  | .int i => .ok (some i, p.2)
  | _ => .bad := rfl
@[simp] theorem pfld {cs : List Str} {n c : Str} {fs : List (Str × D)} : fldD cs n (.ins c fs) = if c ∈ cs then fs.lookup n else none := rfl
@[simp] theorem pcon {c n c' : Str} {d : D} {fs : List (Str × D)} : conD c n d (.ins c' fs) = if c' = c ∧ hasNo fs n = true then some d else none := rfl
@[simp] theorem phasno {fs : List (Str × D)} {m : Str} : hasNo fs m = fs.all fun q => decide (q.1 ≠ m) := rfl
@[simp] theorem pslL {ds : List D} {lo hi : Option Int} : slL (.lst ds) lo hi = some (.lst (cutD ds lo hi)) := rfl
@[simp] theorem plenL {ds : List D} : lenD (.lst ds) = some (.int ds.length) := rfl
@[simp] theorem plenT {ds : List D} : lenD (.tup ds) = some (.int ds.length) := rfl
@[simp] theorem plenK {kvs : List (Key × D)} : lenK (.dk kvs) = some (.int kvs.length) := rfl
@[simp] theorem plenDK {kvs : List (Key × D)} : lenD (.dk kvs) = none := rfl
@[simp] theorem pgt {a b : Int} : gtI (.int a) (.int b) = some (.bl (decide (b < a))) := rfl
@[simp] theorem plt {a b : Int} : ltI (.int a) (.int b) = some (.bl (decide (a < b))) := rfl
@[simp] theorem ple {a b : Int} : leI (.int a) (.int b) = some (.bl (decide (a ≤ b))) := rfl
@[simp] theorem pge {a b : Int} : geI (.int a) (.int b) = some (.bl (decide (b ≤ a))) := rfl
@[simp] theorem padd {a b : Int} : addI (.int a) (.int b) = some (.int (a + b)) := rfl
@[simp] theorem psub {a b : Int} : subI (.int a) (.int b) = some (.int (a - b)) := rfl
@[simp] theorem pixL {ds : List D} {i : Int} : ixG (.lst ds) (.int i) = atI ds i := rfl
@[simp] theorem pixT {ds : List D} {i : Int} : ixG (.tup ds) (.int i) = atI ds i := rfl
@[simp] theorem plistL {ds : List D} : listD (.lst ds) = some (.lst ds) := rfl
@[simp] theorem plistT {ds : List D} : listD (.tup ds) = some (.lst ds) := rfl
@[simp] theorem pcat {a b : List D} : catL (.lst a) (.lst b) = if a.length + b.length ≤ 100000 then some (.lst (a ++ b)) else none := rfl
@[simp] theorem peqSS {a b : Str} : eqD (.str a) (.str b) = some (.bl (decide (a = b))) := rfl
@[simp] theorem peqII {a b : Int} : eqD (.int a) (.int b) = some (.bl (decide (a = b))) := by
  show (if okPy (.int a) = true ∧ okPy (.int b) = true then some (D.bl (PyData.eqv (.int a) (.int b))) else none) = _
  rw [if_pos ⟨rfl, rfl⟩]
  rfl
@[simp] theorem pneII {a b : Int} : neD (.int a) (.int b) = some (.bl (!decide (a = b))) := by
  show (if okPy (.int a) = true ∧ okPy (.int b) = true then some (D.bl (!PyData.eqv (.int a) (.int b))) else none) = _
  rw [if_pos ⟨rfl, rfl⟩]
  rfl
@[simp] theorem peqBB {a b : Bool} : eqD (.bl a) (.bl b) = some (.bl (a == b)) := by
  show (if okPy (.bl a) = true ∧ okPy (.bl b) = true then some (D.bl (PyData.eqv (.bool a) (.bool b))) else none) = _
  rw [if_pos ⟨rfl, rfl⟩]
  rfl
@[simp] theorem plook {a k : Str} {v : D} {l : List (Str × D)} : List.lookup a ((k, v) :: l) = if a = k then some v else l.lookup a := by
  rw [List.lookup_cons]
  by_cases h : a = k
  · rw [if_pos h, beq_iff_eq.mpr h]
  · rw [if_neg h, beq_eq_false_iff_ne.mpr h]
@[simp] theorem pneSS {a b : Str} : neD (.str a) (.str b) = some (.bl (!decide (a = b))) := rfl
@[simp] theorem pisiS {ns : List String} {cs : List Str} {x : Str} : isiB ns cs (.str x) = some (.bl (ns.any fun n => isT "str" n)) := rfl
@[simp] theorem pisiI {ns : List String} {cs : List Str} {x : Int} : isiB ns cs (.int x) = some (.bl (ns.any fun n => isT "int" n)) := rfl
@[simp] theorem pisiBl {ns : List String} {cs : List Str} {x : Bool} : isiB ns cs (.bl x) = some (.bl (ns.any fun n => isT "bool" n)) := rfl
@[simp] theorem pisiL {ns : List String} {cs : List Str} {x : List D} : isiB ns cs (.lst x) = some (.bl (ns.any fun n => isT "list" n)) := rfl
@[simp] theorem pisiT {ns : List String} {cs : List Str} {x : List D} : isiB ns cs (.tup x) = some (.bl (ns.any fun n => isT "tuple" n)) := rfl
@[simp] theorem pisiD {ns : List String} {cs : List Str} {x : List (Key × D)} : isiB ns cs (.dk x) = some (.bl (ns.any fun n => isT "dict" n)) := rfl
@[simp] theorem pisiO {c c' : Str} {cs : List Str} {fs : List (Str × D)} : isiO c cs (.ins c' fs) = if c' = c then some (.bl true) else if c' ∈ cs then some (.bl false) else none := rfl
@[simp] theorem pisT {t n : String} : isT t n = (t == n || (t == "bool" && n == "int")) := rfl
@[simp] theorem pendB {d d1 : D} {r : En} : endB d (some (.bo d1) :: r) = .ok (d, d1) := rfl
@[simp] theorem pputN {n : Str} {d : D} : putD n d [] = [(n, d)] := rfl
@[simp] theorem pputC {n k : Str} {d d0 : D} {fs : List (Str × D)} : putD n d ((k, d0) :: fs) = if k = n then (n, d) :: fs else (k, d0) :: putD n d fs := rfl
theorem atI_nat {α : Type} (l : List α) (k : Nat) : atI l (k : Int) = l[k]? := by
  unfold atI ixN
  rw [if_pos (Int.natCast_nonneg k)]
  by_cases h : k < l.length
  · rw [if_pos (by omega)]
    simp
  · rw [if_neg (by omega)]
    simp
    omega
@[simp] theorem patI0 {α : Type} {l : List α} : atI l 0 = l[0]? := atI_nat l 0
@[simp] theorem patI1 {α : Type} {l : List α} : atI l 1 = l[1]? := atI_nat l 1
@[simp] theorem patI2 {α : Type} {l : List α} : atI l 2 = l[2]? := atI_nat l 2
@[simp] theorem patI3 {α : Type} {l : List α} : atI l 3 = l[3]? := atI_nat l 3
end Dl

set_option Elab.async false
set_option linter.all false
set_option maxRecDepth 100000
set_option maxHeartbeats 4000000
namespace Dl
open PySem L2
/-! ### what is not there yet -/
def ninB {α : Type} [DecidableEq α] (a : List α) (x : α) : Bool := !decide (x ∈ a)
theorem ninB_yes {α : Type} [DecidableEq α] {a : List α} {x : α} (h : x ∉ a) : ninB a x = true := by simp [ninB, h]
theorem ninB_no {α : Type} [DecidableEq α] {a : List α} {x : α} (h : x ∈ a) : ninB a x = false := by simp [ninB, h]
abbrev addL {α : Type} [DecidableEq α] (a b : List α) : List α := a ++ b.filter (ninB a)
theorem nodup_add {α : Type} [DecidableEq α] {a b : List α} (h : a.Nodup) (k : b.Nodup) : (addL a b).Nodup := by
  rw [List.nodup_append]
  refine ⟨h, k.filter _, fun x hx y hy e => ?_⟩
  subst e
  have := (List.mem_filter.mp hy).2
  rw [ninB_no hx] at this
  cases this
theorem mem_add {α : Type} [DecidableEq α] {a b : List α} {x : α} : x ∈ addL a b ↔ x ∈ a ∨ x ∈ b := by
  rw [List.mem_append, List.mem_filter]
  by_cases h : x ∈ a
  · simp [h]
  · simp [h, ninB_yes h]
/-! ### dicts of numbers by names -/
abbrev Nr : Type := List (Str × Int)
abbrev eNear (nr : Nr) : D := .dk (nr.map fun q => (Sum.inr q.1, .int q.2))
def keysN (nr : Nr) : List Str := nr.map (·.1)
def getN (nr : Nr) (x : Str) : Int := ((nr.find? fun q => decide (q.1 = x)).map (·.2)).getD 0
theorem getKD_near {nr : Nr} {x : Str} (h : x ∈ keysN nr) : getKD (nr.map fun q => ((Sum.inr q.1 : Key), D.int q.2)) (Sum.inr x) = some (.int (getN nr x)) := by
  induction nr with
  | nil => simp [keysN] at h
  | cons q nr ih =>
    unfold getKD getN
    by_cases e : q.1 = x
    · simp [List.find?_cons, e]
    · have h' : x ∈ keysN nr := by
        unfold keysN at h ⊢
        rw [List.map_cons, List.mem_cons] at h
        exact h.resolve_left fun z => e z.symm
      have := ih h'
      unfold getKD getN at this
      simp [List.find?_cons, e] at this ⊢
      exact this
theorem getKD_none {nr : Nr} {x : Str} (h : x ∉ keysN nr) : getKD (nr.map fun q => ((Sum.inr q.1 : Key), D.int q.2)) (Sum.inr x) = none := by
  induction nr with
  | nil => rfl
  | cons q nr ih =>
    have h1 : q.1 ≠ x := fun z => h (by unfold keysN; simp [z])
    have h2 : x ∉ keysN nr := fun z => h (by unfold keysN at z ⊢; simp only [List.map_cons, List.mem_cons]; exact .inr z)
    have := ih h2
    unfold getKD at this ⊢
    simp [List.find?_cons, h1] at this ⊢
    exact this
@[simp] theorem pdget {kvs : List (Key × D)} {x : Str} : dgetD (.dk kvs) (.str x) = getKD kvs (.inr x) := rfl
theorem dget_near {nr : Nr} {x : Str} (h : x ∈ keysN nr) : dgetD (eNear nr) (.str x) = some (.int (getN nr x)) := getKD_near h
theorem din_near {nr : Nr} {x : Str} (h : x ∈ keysN nr) : dinD (.str x) (eNear nr) = some (.bl true) := by
  show some (D.bl (getKD (nr.map fun q => ((Sum.inr q.1 : Key), D.int q.2)) (Sum.inr x)).isSome) = _
  rw [getKD_near h]
  rfl
theorem din_near0 {nr : Nr} {x : Str} (h : x ∉ keysN nr) : dinD (.str x) (eNear nr) = some (.bl false) := by
  show some (D.bl (getKD (nr.map fun q => ((Sum.inr q.1 : Key), D.int q.2)) (Sum.inr x)).isSome) = _
  rw [getKD_none h]
  rfl
theorem putKD_new {nr : Nr} {x : Str} {i : Int} (h : x ∉ keysN nr) : putKD (nr.map fun q => ((Sum.inr q.1 : Key), D.int q.2)) (Sum.inr x) (.int i) = (nr ++ [(x, i)]).map fun q => ((Sum.inr q.1 : Key), D.int q.2) := by
  unfold putKD
  rw [if_neg]
  · simp
  · intro z
    rw [List.any_eq_true] at z
    obtain ⟨q, hq, e⟩ := z
    obtain ⟨p, hp, rfl⟩ := List.mem_map.mp hq
    have e' : p.1 = x := by simpa using e
    exact h (by unfold keysN; exact List.mem_map.mpr ⟨p, hp, e'⟩)
theorem merge_near : ∀ {ps acc : Nr}, (keysN (acc ++ ps)).Nodup → mergeKD (acc.map fun q => ((Sum.inr q.1 : Key), D.int q.2)) (ps.map fun q => ((Sum.inr q.1 : Key), D.int q.2)) = (acc ++ ps).map fun q => ((Sum.inr q.1 : Key), D.int q.2)
  | [], acc, _ => by simp [mergeKD]
  | q :: ps, acc, h => by
    have nq : q.1 ∉ keysN acc := by
      unfold keysN at h ⊢
      rw [List.map_append, List.nodup_append] at h
      exact fun z => h.2.2 q.1 z q.1 (by simp) rfl
    have ih := merge_near (ps := ps) (acc := acc ++ [q]) (by rw [List.append_assoc]; exact h)
    unfold mergeKD at ih ⊢
    rw [List.map_cons, List.foldl_cons]
    simp only
    rw [putKD_new nq]
    rw [List.append_assoc] at ih
    exact ih
theorem pairs_near : ∀ nr : Nr, pairsOf (nr.map fun q => D.tup [.str q.1, .int q.2]) = some (nr.map fun q => ((Sum.inr q.1 : Key), D.int q.2))
  | [] => rfl
  | q :: nr => by
    rw [List.map_cons]
    unfold pairsOf
    simp [keyD, pairs_near nr]
theorem items_near (nr : Nr) : itemsL (eNear nr) = some (.lst (nr.map fun q => D.tup [.str q.1, .int q.2])) := by
  unfold itemsL eNear
  simp [keyE]
theorem dictP_near {nr : Nr} (h : (keysN nr).Nodup) : dictP (.lst (nr.map fun q => D.tup [.str q.1, .int q.2])) = some (eNear nr) := by
  unfold dictP
  simp only [pairs_near]
  have := merge_near (ps := nr) (acc := []) h
  simp at this
  simp [this, eNear]
end Dl

set_option Elab.async false
set_option linter.all false
set_option maxRecDepth 100000
set_option maxHeartbeats 4000000
namespace Dl
open PySem L2
theorem for_mapA {α : Type} {f : α → D} {g : D → En → Res En} {b : En → SR} {I : List α → En → Prop} (l : List α) (hs : ∀ pre x suf r, l = pre ++ x :: suf → I pre r → ∃ r1 r2, g (f x) r = .ok r1 ∧ (b r1 = .nx r2 ∨ b r1 = .ct r2) ∧ I (pre ++ [x]) r2) :
    ∀ (suf pre : List α) (r : En), l = pre ++ suf → I pre r → ∃ r', forD g b (suf.map f) r = .nx r' ∧ I l r'
  | [], pre, r, e, h => ⟨r, rfl, by rw [e, List.append_nil]; exact h⟩
  | x :: suf, pre, r, e, h => by
    obtain ⟨r1, r2, h1, h2, h3⟩ := hs pre x suf r e h
    obtain ⟨r', e', i⟩ := for_mapA l hs suf (pre ++ [x]) r2 (by rw [e]; simp) h3
    refine ⟨r', ?_, i⟩
    rw [List.map_cons]
    unfold forD
    rw [h1]
    rcases h2 with h2 | h2
    · simp only [sBind, h2]
      exact e'
    · simp only [sBind, h2]
      exact e'
theorem for_map {α : Type} {f : α → D} {g : D → En → Res En} {b : En → SR} {I : List α → En → Prop} (l : List α) (r : En) (h0 : I [] r) (hs : ∀ pre x suf r, l = pre ++ x :: suf → I pre r → ∃ r1 r2, g (f x) r = .ok r1 ∧ (b r1 = .nx r2 ∨ b r1 = .ct r2) ∧ I (pre ++ [x]) r2) :
    ∃ r', forD g b (l.map f) r = .nx r' ∧ I l r' := for_mapA l hs l [] r rfl h0
@[simp] theorem pextend {i : Nat} {f : En → Res (D × En)} {r : En} : sExtend i f r = atMineS r i fun s0 => match s0.d with
  | .lst _ => sBind (f r) fun p => atMineS p.2 i fun s => match extD s.d p.1 with
    | some z => .nx (p.2.set i (some (s.put z)))
    | none => .bad
  | _ => .bad := rfl
@[simp] theorem pappend {i : Nat} {f : En → Res (D × En)} {r : En} : sAppend i f r = atMineS r i fun s0 => match s0.d with
  | .lst _ => sBind (f r) fun p => atMineS p.2 i fun s => match s.d with
    | .lst ds => if ds.length < 100000 then .nx (p.2.set i (some (s.put (.lst (ds ++ [p.1]))))) else .bad
    | _ => .bad
  | _ => .bad := rfl
@[simp] theorem pext {a b : List D} : extD (.lst a) (.lst b) = if a.length + b.length < 100000 then some (.lst (a ++ b)) else none := rfl
@[simp] theorem pirg2 {as : En → Res (List D × En)} {r : En} : iRg2 as r = (as r).bind fun p => match p.1 with
  | [.int a, .int b] => if -(2 ^ 62) ≤ a ∧ a < 2 ^ 62 ∧ -(2 ^ 62) ≤ b ∧ b < 2 ^ 62 then .ok (rngD a b, p.2) else .bad
  | _ => .bad := rfl
@[simp] theorem pneg {a : Int} : negI (.int a) = some (.int (-a)) := rfl
/-- a comprehension over a mapped list -/
theorem elc_of {α : Type} {f z : α → D} {p : α → Bool} {s : En → Res (List D × En)} {g : D → En → Res En} {t : En → Res (Bool × En)} {e : En → Res (D × En)} {vs : List Nat} {r r0 : En} {l : List α} (hs : s r = .ok (l.map f, r0)) (hl : l.length ≤ 100000)
    (h : ∀ x ∈ l, ∃ r1 r2 r3, g (f x) (wipeE r0 vs) = .ok r1 ∧ t r1 = .ok (p x, r2) ∧ (p x = true → e r2 = .ok (z x, r3) ∧ wipeE r3 vs = wipeE r0 vs) ∧ (p x = false → wipeE r2 vs = wipeE r0 vs)) :
    eLc s g t e vs r = .ok (.lst ((l.filter p).map z), restore r0 vs (wipeE r0 vs)) := by
  unfold eLc
  rw [hs, bind_ok]
  simp only [List.length_map, if_pos hl]
  have key : ∀ (m : List α) (acc : List D), (∀ x ∈ m, x ∈ l) → lcLoop g t e vs (m.map f) (wipeE r0 vs) acc = .ok (acc ++ (m.filter p).map z, wipeE r0 vs) := by
    intro m
    induction m with
    | nil => intro acc _; simp [lcLoop]
    | cons x m ih =>
      intro acc hm
      obtain ⟨r1, r2, r3, h1, h2, h3, h4⟩ := h x (hm x (by simp))
      rw [List.map_cons]
      unfold lcLoop
      rw [h1, nX_ok, bind_ok, h2, nX_ok, bind_ok]
      cases q : p x with
      | true =>
        obtain ⟨h5, h6⟩ := h3 q
        simp only
        rw [h5, nX_ok, bind_ok]
        simp only [h6]
        rw [ih _ fun y hy => hm y (List.mem_cons_of_mem _ hy)]
        simp [List.filter_cons, q]
      | false =>
        simp only [h4 q]
        rw [ih _ fun y hy => hm y (List.mem_cons_of_mem _ hy)]
        simp [List.filter_cons, q]
  rw [key l [] fun x hx => hx, nX_ok, bind_ok]
  rfl
/-- .. without a test -/
theorem elc_all {α : Type} {f z : α → D} {s : En → Res (List D × En)} {g : D → En → Res En} {e : En → Res (D × En)} {vs : List Nat} {r r0 : En} {l : List α} (hs : s r = .ok (l.map f, r0)) (hl : l.length ≤ 100000)
    (h : ∀ x ∈ l, ∃ r1 r3, g (f x) (wipeE r0 vs) = .ok r1 ∧ e r1 = .ok (z x, r3) ∧ wipeE r3 vs = wipeE r0 vs) :
    eLc s g tYesD e vs r = .ok (.lst (l.map z), restore r0 vs (wipeE r0 vs)) := by
  rw [elc_of (p := fun _ => true) (z := z) hs hl, List.filter_eq_self.mpr (by simp)]
  intro x hx
  obtain ⟨r1, r3, h1, h2, h3⟩ := h x hx
  exact ⟨r1, r1, r3, h1, rfl, fun _ => ⟨h2, h3⟩, fun z => nomatch z⟩
end Dl

set_option Elab.async false
set_option linter.all false
set_option maxRecDepth 100000
set_option maxHeartbeats 0
namespace K10
open PySem L2 Dl
def top (i : Nat) : Stmt := PySem.Challenge.pw_letdays_k10_calendars_joined.main.body.getD i (.Pass ⟨0, 0, 0, 0⟩)
def clsB : Stmt → List Stmt
  | .ClassDef (body := b) .. => b
  | _ => []
def mth (i j : Nat) : Stmt := (clsB (top i)).getD j (.Pass ⟨0, 0, 0, 0⟩)
abbrev df_0 : He.DefD := ⟨("_law_pot", none), "_law_pot", "_law_pot", defArgs (top 21), defBody (top 21), defScope (top 21), [], []⟩
abbrev df_1 : He.DefD := ⟨("Calendar", some "clauses"), "clauses", "Calendar.clauses", defArgs (mth 19 9), defBody (mth 19 9), defScope (mth 19 9), [], []⟩
abbrev df_2 : He.DefD := ⟨("Calendar", some "moments"), "moments", "Calendar.moments", defArgs (mth 19 8), defBody (mth 19 8), defScope (mth 19 8), [], []⟩
abbrev df_3 : He.DefD := ⟨("Calendar", some "__eq__"), "__eq__", "Calendar.__eq__", defArgs (mth 19 23), defBody (mth 19 23), defScope (mth 19 23), [], []⟩
abbrev df_4 : He.DefD := ⟨("Calendar", some "has_moment"), "has_moment", "Calendar.has_moment", defArgs (mth 19 7), defBody (mth 19 7), defScope (mth 19 7), [], []⟩
abbrev df_5 : He.DefD := ⟨("is_integer", none), "is_integer", "is_integer", defArgs (top 5), defBody (top 5), defScope (top 5), [], []⟩
abbrev df_6 : He.DefD := ⟨("is_name", none), "is_name", "is_name", defArgs (top 7), defBody (top 7), defScope (top 7), [], []⟩
abbrev df_7 : He.DefD := ⟨("is_moment", none), "is_moment", "is_moment", defArgs (top 8), defBody (top 8), defScope (top 8), [], []⟩
abbrev df_8 : He.DefD := ⟨("is_clause", none), "is_clause", "is_clause", defArgs (top 9), defBody (top 9), defScope (top 9), [], []⟩
abbrev df_9 : He.DefD := ⟨("Calendar", some "is_own_form"), "is_own_form", "Calendar.is_own_form", defArgs (mth 19 5), defBody (mth 19 5), defScope (mth 19 5), [], []⟩
abbrev df_10 : He.DefD := ⟨("is_list", none), "is_list", "is_list", defArgs (top 6), defBody (top 6), defScope (top 6), [], []⟩
abbrev df_11 : He.DefD := ⟨("Calendar", some "__init__"), "__init__", "Calendar.__init__", defArgs (mth 19 3), defBody (mth 19 3), defScope (mth 19 3), [.adr (He.dflAt ("Calendar", some "__init__") 0)], []⟩
abbrev df_12 : He.DefD := ⟨("Calendar", some "__or__"), "__or__", "Calendar.__or__", defArgs (mth 19 22), defBody (mth 19 22), defScope (mth 19 22), [], []⟩
abbrev df_13 : He.DefD := ⟨("_law_draw", none), "_law_draw", "_law_draw", defArgs (top 22), defBody (top 22), defScope (top 22), [], []⟩
abbrev df_14 : He.DefD := ⟨("_law_pick", none), "_law_pick", "_law_pick", defArgs (top 23), defBody (top 23), defScope (top 23), [], []⟩
abbrev df_15 : He.DefD := ⟨("_law_draft", none), "_law_draft", "_law_draft", defArgs (top 24), defBody (top 24), defScope (top 24), [], []⟩
abbrev df_16 : He.DefD := ⟨("Calendar", some "__contains__"), "__contains__", "Calendar.__contains__", defArgs (mth 19 12), defBody (mth 19 12), defScope (mth 19 12), [], []⟩
abbrev df_17 : He.DefD := ⟨("_law_all", none), "_law_all", "_law_all", defArgs (top 26), defBody (top 26), defScope (top 26), [], []⟩
abbrev df_18 : He.DefD := ⟨("_law_keeps", none), "_law_keeps", "_law_keeps", defArgs (top 27), defBody (top 27), defScope (top 27), [], []⟩
abbrev df_19 : He.DefD := ⟨("_law_is_told", none), "_law_is_told", "_law_is_told", defArgs (top 28), defBody (top 28), defScope (top 28), [], []⟩
abbrev df_20 : He.DefD := ⟨("_law_merged", none), "_law_merged", "_law_merged", defArgs (top 25), defBody (top 25), defScope (top 25), [], []⟩
abbrev df_21 : He.DefD := ⟨("_law_two_right", none), "_law_two_right", "_law_two_right", defArgs (top 29), defBody (top 29), defScope (top 29), [], []⟩
abbrev df_22 : He.DefD := ⟨("_law_right", none), "_law_right", "_law_right", defArgs (top 30), defBody (top 30), defScope (top 30), [], []⟩
abbrev df_23 : He.DefD := ⟨("law", none), "law", "law", defArgs (top 31), defBody (top 31), defScope (top 31), [], []⟩
abbrev df_24 : He.DefD := ⟨("is_clause_basics", none), "is_clause", "is_clause", defArgs (top 9), defBody (top 9), defScope (top 9), [], []⟩
def fn : List He.DefD := [df_0, df_1, df_2, df_3, df_4, df_5, df_6, df_7, df_8, df_9, df_10, df_11, df_12, df_13, df_14, df_15, df_16, df_17, df_18, df_19, df_20, df_21, df_22, df_23, df_24]
def fa : List He.Fa := [.glo "law", .free "len", .free "min", .free "max", .free "range", .glo "_law_pot", .glo "_law_right", .free "all", .free "int", .free "abs", .glo "_law_draft", .glo "Calendar", .mkr "Calendar", .glo "_law_two_right", .meth "Calendar" "__or__", .cls "Calendar", .meth "Calendar" "__eq__", .glo "_law_merged", .glo "_law_is_told", .meth "Calendar" "clauses", .glo "_law_draw", .glo "_law_pick", .glo "is_list", .free "enumerate", .glo "is_name", .free "sorted", .noat "Calendar" "own_moments", .meth "Calendar" "is_own_form", .free "list", .noat "Calendar" "own_clauses", .glo "_law_all", .free "dict", .meth "Calendar" "__contains__", .free "repr", .free "isinstance", .meth "Calendar" "moments", .glo "_law_keeps", .free "divmod", .free "tuple", .free "str", .int "MOST_LETTERS" (6), .str "ZERO" "day", .str "LETTERS" "abcdefghijklmnopqrstuvwxyz", .glo "is_clause_basics", .meth "Calendar" "has_moment", .glo "is_integer", .glo "is_moment", .free "bool"]
def fb : List Fb := [.ops "Calendar", .ins "Calendar", .conI "Calendar" "MOST_MOMENTS" 8, .conI "Calendar" "MOST_CLAUSES" 40, .noO "Calendar", .conS "Calendar" "ZERO" "day", .tup0 ("Calendar", some "__init__") 0]
abbrev WD (K : PySem.W.Frag) (mg : Str → Option Value) : Prop := Wd fa fn fb K mg
section
variable {K : PySem.W.Frag} {mg : Str → Option Value}
theorem f_len (V : WD K mg) : mg "len" = none := V.free 1
theorem f_min (V : WD K mg) : mg "min" = none := V.free 2
theorem f_max (V : WD K mg) : mg "max" = none := V.free 3
theorem f_range (V : WD K mg) : mg "range" = none := V.free 4
theorem g_law_pot (V : WD K mg) : mg "_law_pot" = some (.ref (He.ga K "_law_pot")) := V.glo 5
theorem g_law_right (V : WD K mg) : mg "_law_right" = some (.ref (He.ga K "_law_right")) := V.glo 6
theorem f_all (V : WD K mg) : mg "all" = none := V.free 7
theorem f_int (V : WD K mg) : mg "int" = none := V.free 8
theorem f_abs (V : WD K mg) : mg "abs" = none := V.free 9
theorem g_law_draft (V : WD K mg) : mg "_law_draft" = some (.ref (He.ga K "_law_draft")) := V.glo 10
theorem g_Calendar (V : WD K mg) : mg "Calendar" = some (.ref (He.ga K "Calendar")) := V.glo 11
theorem mk_Calendar (V : WD K mg) : Mk K (He.ga K "Calendar") (He.ma K (He.ga K "Calendar") "__init__") := V.mkr 12
theorem g_law_two_right (V : WD K mg) : mg "_law_two_right" = some (.ref (He.ga K "_law_two_right")) := V.glo 13
theorem sf_Calendar (V : WD K mg) : PySem.W.selfFirst K (He.ga K "Calendar") = true := fb_self (V.fbs 0)
theorem nq_Calendar (V : WD K mg) : PySem.W.findIn K (.ref (He.ga K "Calendar")) "__ne__" = some (some (.builtin "object.__ne__")) := fb_ne (V.fbs 0)
theorem m_Calendar_or (V : WD K mg) : Meth K (He.ga K "Calendar") "__or__" (He.ma K (He.ga K "Calendar") "__or__") := V.meth 14
theorem cl_Calendar (V : WD K mg) : Cls K (He.ga K "Calendar") := V.cls 15
theorem in_Calendar (V : WD K mg) : InsC K (He.ga K "Calendar") := fb_ins (V.fbs 1) (cl_Calendar V)
theorem m_Calendar_eq (V : WD K mg) : Meth K (He.ga K "Calendar") "__eq__" (He.ma K (He.ga K "Calendar") "__eq__") := V.meth 16
theorem g_law_merged (V : WD K mg) : mg "_law_merged" = some (.ref (He.ga K "_law_merged")) := V.glo 17
theorem g_law_is_told (V : WD K mg) : mg "_law_is_told" = some (.ref (He.ga K "_law_is_told")) := V.glo 18
theorem m_Calendar_clauses (V : WD K mg) : Meth K (He.ga K "Calendar") "clauses" (He.ma K (He.ga K "Calendar") "clauses") := V.meth 19
theorem g_law_draw (V : WD K mg) : mg "_law_draw" = some (.ref (He.ga K "_law_draw")) := V.glo 20
theorem g_law_pick (V : WD K mg) : mg "_law_pick" = some (.ref (He.ga K "_law_pick")) := V.glo 21
theorem g_is_list (V : WD K mg) : mg "is_list" = some (.ref (He.ga K "is_list")) := V.glo 22
theorem f_enumerate (V : WD K mg) : mg "enumerate" = none := V.free 23
theorem g_is_name (V : WD K mg) : mg "is_name" = some (.ref (He.ga K "is_name")) := V.glo 24
theorem f_sorted (V : WD K mg) : mg "sorted" = none := V.free 25
theorem na_Calendar_own_moments (V : WD K mg) : ∀ c ∈ (["Calendar"] : List Str), ∀ C, mg c = some (.ref C) → Cls K C ∧ NoAttr K C "own_moments" := by
  intro c hc C hC
  cases (List.mem_singleton.mp hc)
  rw [g_Calendar V] at hC
  cases hC
  exact ⟨cl_Calendar V, V.noat 26⟩
theorem m_Calendar_is_own_form (V : WD K mg) : Meth K (He.ga K "Calendar") "is_own_form" (He.ma K (He.ga K "Calendar") "is_own_form") := V.meth 27
theorem f_list (V : WD K mg) : mg "list" = none := V.free 28
theorem na_Calendar_own_clauses (V : WD K mg) : ∀ c ∈ (["Calendar"] : List Str), ∀ C, mg c = some (.ref C) → Cls K C ∧ NoAttr K C "own_clauses" := by
  intro c hc C hC
  cases (List.mem_singleton.mp hc)
  rw [g_Calendar V] at hC
  cases hC
  exact ⟨cl_Calendar V, V.noat 29⟩
theorem cn_Calendar_MOST_MOMENTS (V : WD K mg) : ∃ t, Con K (He.ga K "Calendar") "MOST_MOMENTS" (.int 8) (.int 8 t) := fb_conI (V.fbs 2)
theorem cn_Calendar_MOST_CLAUSES (V : WD K mg) : ∃ t, Con K (He.ga K "Calendar") "MOST_CLAUSES" (.int 40) (.int 40 t) := fb_conI (V.fbs 3)
theorem g_law_all (V : WD K mg) : mg "_law_all" = some (.ref (He.ga K "_law_all")) := V.glo 30
theorem f_dict (V : WD K mg) : mg "dict" = none := V.free 31
theorem m_Calendar_contains (V : WD K mg) : Meth K (He.ga K "Calendar") "__contains__" (He.ma K (He.ga K "Calendar") "__contains__") := V.meth 32
theorem f_repr (V : WD K mg) : mg "repr" = none := V.free 33
theorem f_isinstance (V : WD K mg) : mg "isinstance" = none := V.free 34
theorem no_Calendar (V : WD K mg) : ∀ t ∈ tyNs, PySem.W.kitOne K (.type t) (.ref (He.ga K "Calendar")) = some false := fb_noO (V.fbs 4)
theorem m_Calendar_moments (V : WD K mg) : Meth K (He.ga K "Calendar") "moments" (He.ma K (He.ga K "Calendar") "moments") := V.meth 35
theorem g_law_keeps (V : WD K mg) : mg "_law_keeps" = some (.ref (He.ga K "_law_keeps")) := V.glo 36
theorem f_divmod (V : WD K mg) : mg "divmod" = none := V.free 37
theorem f_tuple (V : WD K mg) : mg "tuple" = none := V.free 38
theorem f_str (V : WD K mg) : mg "str" = none := V.free 39
theorem gi_MOST_LETTERS (V : WD K mg) : ∃ t, mg "MOST_LETTERS" = some (.int (6) t) := V.int 40
theorem gs_ZERO (V : WD K mg) : ∃ t, mg "ZERO" = some (.str "day" t) := V.str 41
theorem gs_LETTERS (V : WD K mg) : ∃ t, mg "LETTERS" = some (.str "abcdefghijklmnopqrstuvwxyz" t) := V.str 42
theorem g_is_clause_basics (V : WD K mg) : mg "is_clause_basics" = some (.ref (He.ga K "is_clause_basics")) := V.glo 43
theorem m_Calendar_has_moment (V : WD K mg) : Meth K (He.ga K "Calendar") "has_moment" (He.ma K (He.ga K "Calendar") "has_moment") := V.meth 44
theorem g_is_integer (V : WD K mg) : mg "is_integer" = some (.ref (He.ga K "is_integer")) := V.glo 45
theorem cn_Calendar_ZERO (V : WD K mg) : ∃ t, Con K (He.ga K "Calendar") "ZERO" (.str "day") (.str "day" t) := fb_conS (V.fbs 5)
theorem g_is_moment (V : WD K mg) : mg "is_moment" = some (.ref (He.ga K "is_moment")) := V.glo 46
theorem f_bool (V : WD K mg) : mg "bool" = none := V.free 47
end
section
variable {P : Program} {w : World} {K : PySem.W.Frag} {mg : Str → Option Value} {base : Heap}
/-! lpot -/
def s_lpot : En → Res (D × En) :=
  (nSeq (sSet 2 (eBin addI (bOf (eBin mulI (bOf (eC (.int 23))) (bVar 1))) (bOf (eC (.int 7)))))
  (nSeq (sIf (tOfE (eBin ltI (bVar 1) (bOf (eUn (orU lenD lenK) (bVar 0))))) (sSet 2 (eUn absD (bOf (eBin ixG (bVar 0) (bVar 1))))) sNop)
  (eLst (aCons (eBin max2D (bOf (eC (.int 0))) (bOf (eBin subI (bVar 2) (bOf (eBin powI (bOf (eC (.int 10))) (bOf (eC (.int 18)))))))) (aCons (eBin addI (bOf (eBin modI (bOf (eBin mulI (bOf (eUn intD (bOf (eBin addI (bOf (eBin modI (bOf (eUn intD (bVar 2))) (bOf (eC (.int 2147483477))))) (bOf (eC (.int 13))))))) (bOf (eBin powI (bOf (eBin addI (bOf (eBin mulI (bOf (eC (.int 2))) (bVar 1))) (bOf (eC (.int 5))))) (bOf (eC (.int 3))))))) (bOf (eC (.int 2147483549))))) (bOf (eC (.int 1)))) aNil)))))
def n_lpot : List D → Res D := runN 3 2 s_lpot
abbrev nm_lpot : List Str := ["_law_script", "_law_k", "_law_cell"]
theorem sc_lpot : FnScope nm_lpot ["_law_script", "_law_k"] (defScope (top 21)) := ⟨rfl, rfl, rfl, by decide +kernel, rfl, by decide +kernel, by decide +kernel⟩
theorem ok_lpot (V : WD K mg) (fA : Addr) : BodyNew P w K mg base 0 nm_lpot "_law_pot" (defScope (top 21)) fA (defBody (top 21)) s_lpot := by
  intro cdv A outer s H E hr
  have nd := (sc_lpot).nd
  exact (dns_cons (ds_set (i := 2) nd (de_add (DE.db (de_mul (DE.db de_int) (db_var (i := 1)))) (DE.db de_int)))
  (dns_cons (ds_if (DC.dt (dc_lt (db_var (i := 1)) (DE.db (de_len  (f_len V) (db_var (i := 0)))))) (dss_one (ds_set (i := 2) nd (de_abs  (f_abs V) (DE.db (de_at (db_var (i := 0)) (db_var (i := 1))))))) dss_nil)
  (dns_ret (dn_lst (da_cons (de_max2 rfl (f_max V) (DE.db de_int) (DE.db (de_sub (db_var (i := 2)) (DE.db (de_pow (DE.db de_int) (DE.db de_int)))))) (da_cons (de_add (DE.db (de_mod (DE.db (de_mul (DE.db (de_int1  (f_int V) (DE.db (de_add (DE.db (de_mod (DE.db (de_int1  (f_int V) (db_var (i := 2)))) (DE.db de_int))) (DE.db de_int))))) (DE.db (de_pow (DE.db (de_add (DE.db (de_mul (DE.db de_int) (db_var (i := 1)))) (DE.db de_int))) (DE.db de_int))))) (DE.db de_int))) (DE.db de_int)) da_nil))))))
theorem c_lpot (V : WD K mg) : CalN P w K mg base 1 (He.ga K "_law_pot") n_lpot := by
  obtain ⟨fd, F⟩ := V.d.def_ 0 (d := df_0) rfl
  exact cal_N F sc_lpot (ok_lpot V _) (fun _ _ _ _ _ _ us hl => match us, hl with | [_, _], _ => rfl)
/-! Calendar_clauses -/
def s_Calendar_clauses : En → SR :=
  (sRet (eUn listD (bOf (eUn (fldD ["Calendar"] "own_clauses") (bVar 0)))))
def d_Calendar_clauses : List D → Res D := runF 1 1 s_Calendar_clauses
abbrev nm_Calendar_clauses : List Str := ["self"]
theorem sc_Calendar_clauses : FnScope nm_Calendar_clauses ["self"] (defScope (mth 19 9)) := ⟨rfl, rfl, rfl, by decide +kernel, rfl, by decide +kernel, by decide +kernel⟩
theorem ok_Calendar_clauses (V : WD K mg) (fA : Addr) : BodyOk P w K mg base 0 nm_Calendar_clauses "Calendar.clauses" (defScope (mth 19 9)) fA (defBody (mth 19 9)) s_Calendar_clauses := by
  intro cdv A outer s H E hr
  have nd := (sc_Calendar_clauses).nd
  exact (dss_one (ds_ret (DN.de (dn_list1  (f_list V) (DE.db (de_fld (na_Calendar_own_clauses V) (db_var (i := 0))))))))
theorem c_Calendar_clauses (V : WD K mg) : CalA P w K mg base 1 (He.ma K (He.ga K "Calendar") "clauses") d_Calendar_clauses := by
  obtain ⟨fd, F⟩ := V.d.def_ 1 (d := df_1) rfl
  exact cal_A F sc_Calendar_clauses (ok_Calendar_clauses V _) (fun _ _ _ _ _ _ us hl => match us, hl with | [_], _ => rfl)
/-! Calendar_moments -/
def s_Calendar_moments : En → SR :=
  (sRet (eUn listD (bOf (eUn (fldD ["Calendar"] "own_moments") (bVar 0)))))
def d_Calendar_moments : List D → Res D := runF 1 1 s_Calendar_moments
abbrev nm_Calendar_moments : List Str := ["self"]
theorem sc_Calendar_moments : FnScope nm_Calendar_moments ["self"] (defScope (mth 19 8)) := ⟨rfl, rfl, rfl, by decide +kernel, rfl, by decide +kernel, by decide +kernel⟩
theorem ok_Calendar_moments (V : WD K mg) (fA : Addr) : BodyOk P w K mg base 0 nm_Calendar_moments "Calendar.moments" (defScope (mth 19 8)) fA (defBody (mth 19 8)) s_Calendar_moments := by
  intro cdv A outer s H E hr
  have nd := (sc_Calendar_moments).nd
  exact (dss_one (ds_ret (DN.de (dn_list1  (f_list V) (DE.db (de_fld (na_Calendar_own_moments V) (db_var (i := 0))))))))
theorem c_Calendar_moments (V : WD K mg) : CalA P w K mg base 1 (He.ma K (He.ga K "Calendar") "moments") d_Calendar_moments := by
  obtain ⟨fd, F⟩ := V.d.def_ 2 (d := df_2) rfl
  exact cal_A F sc_Calendar_moments (ok_Calendar_moments V _) (fun _ _ _ _ _ _ us hl => match us, hl with | [_], _ => rfl)
/-! Calendar_eq -/
def s_Calendar_eq_1 : En → SR :=
  (sIf (tOrD (tNotD (tOfE (eUn (isiO "Calendar" []) (bVar 1)))) (tOfE (eBin neD (bOf (eMeth "Calendar" "moments" d_Calendar_moments (eVar 1) aNil)) (bOf (eUn (fldD ["Calendar"] "own_moments") (bVar 0)))))) (sRet (eC (.bl false))) sNop)
def s_Calendar_eq : En → SR :=
  (sSeq s_Calendar_eq_1
  (sRet (eBin eqD (bOf (eUn sortedD (bOf (eMeth "Calendar" "clauses" d_Calendar_clauses (eVar 1) aNil)))) (bOf (eUn sortedD (bOf (eUn (fldD ["Calendar"] "own_clauses") (bVar 0))))))))
def d_Calendar_eq : List D → Res D := runF 2 2 s_Calendar_eq
abbrev nm_Calendar_eq : List Str := ["self", "other"]
theorem sc_Calendar_eq : FnScope nm_Calendar_eq ["self", "other"] (defScope (mth 19 23)) := ⟨rfl, rfl, rfl, by decide +kernel, rfl, by decide +kernel, by decide +kernel⟩
theorem ok_Calendar_eq (V : WD K mg) (fA : Addr) : BodyOk P w K mg base 1 nm_Calendar_eq "Calendar.__eq__" (defScope (mth 19 23)) fA (defBody (mth 19 23)) s_Calendar_eq := by
  intro cdv A outer s H E hr
  have nd := (sc_Calendar_eq).nd
  exact (dss_cons (ds_if (DW.dt (dw_or (dt_not (dt_val (de_isiO (cs := []) rfl (f_isinstance V) PyProof.Rows.boot_isinstance rfl (g_Calendar V) (no_Calendar V) (in_Calendar V) (fun _ h => nomatch h) (db_var (i := 1))))) (dw_or1 (DC.dt (dc_ne hr (DE.db (de_meth0 (c := "Calendar") (c_Calendar_moments V) tk_def hr (by decide) (g_Calendar V) (cl_Calendar V) (m_Calendar_moments V) (de_var (i := 1)))) (DE.db (de_fld (na_Calendar_own_moments V) (db_var (i := 0))))))))) (dss_one (ds_ret de_bl)) dss_nil)
  (dss_one (ds_ret (DC.de (dc_eq hr (DE.db (DN.de (dn_sorted hr (f_sorted V) (DE.db (de_meth0 (c := "Calendar") (c_Calendar_clauses V) tk_def hr (by decide) (g_Calendar V) (cl_Calendar V) (m_Calendar_clauses V) (de_var (i := 1))))))) (DE.db (DN.de (dn_sorted hr (f_sorted V) (DE.db (de_fld (na_Calendar_own_clauses V) (db_var (i := 0))))))))))))
theorem c_Calendar_eq (V : WD K mg) : CalA P w K mg base 2 (He.ma K (He.ga K "Calendar") "__eq__") d_Calendar_eq := by
  obtain ⟨fd, F⟩ := V.d.def_ 3 (d := df_3) rfl
  exact cal_A F sc_Calendar_eq (ok_Calendar_eq V _) (fun _ _ _ _ _ _ us hl => match us, hl with | [_, _], _ => rfl)
/-! Calendar_has_moment -/
def s_Calendar_has_moment : En → SR :=
  (sRet (eAnd (eUn (isiB ["str"] []) (bVar 1)) (eOr (eBin eqD (bVar 1) (bOf (eUn (conD "Calendar" "ZERO" (.str "day")) (bVar 0)))) (eBin inLst (bVar 1) (bOf (eUn (fldD ["Calendar"] "own_moments") (bVar 0)))))))
def d_Calendar_has_moment : List D → Res D := runF 2 2 s_Calendar_has_moment
def b_Calendar_has_moment : D → List D → Res (D × D) := runB 2 2 s_Calendar_has_moment
abbrev nm_Calendar_has_moment : List Str := ["self", "value"]
theorem sc_Calendar_has_moment : FnScope nm_Calendar_has_moment ["self", "value"] (defScope (mth 19 7)) := ⟨rfl, rfl, rfl, by decide +kernel, rfl, by decide +kernel, by decide +kernel⟩
theorem ok_Calendar_has_moment (V : WD K mg) (fA : Addr) : BodyOk P w K mg base 0 nm_Calendar_has_moment "Calendar.has_moment" (defScope (mth 19 7)) fA (defBody (mth 19 7)) s_Calendar_has_moment := by
  intro cdv A outer s H E hr
  have nd := (sc_Calendar_has_moment).nd
  obtain ⟨t_cn_Calendar_ZERO, h_cn_Calendar_ZERO⟩ := cn_Calendar_ZERO V
  exact (dss_one (ds_ret (de_and (de_isi1 (cs := []) rfl (f_isinstance V) PyProof.Rows.boot_isinstance rfl (f_str V) PyProof.Rows.boot_str (by decide) ⟨fun _ h => nomatch h⟩ (db_var (i := 1))) (de_one (de_or (DC.de (dc_eq hr (db_var (i := 1)) (DE.db (de_con (c := "Calendar") (d := .str "day") (g_Calendar V) (cl_Calendar V) h_cn_Calendar_ZERO (fun _ => rfl) (db_var (i := 0)))))) (de_one (DC.de (dc_inL hr (db_var (i := 1)) (DE.db (de_fld (na_Calendar_own_moments V) (db_var (i := 0))))))))))))
theorem c_Calendar_has_moment (V : WD K mg) : CalA P w K mg base 1 (He.ma K (He.ga K "Calendar") "has_moment") d_Calendar_has_moment := by
  obtain ⟨fd, F⟩ := V.d.def_ 4 (d := df_4) rfl
  exact cal_A F sc_Calendar_has_moment (ok_Calendar_has_moment V _) (fun _ _ _ _ _ _ us hl => match us, hl with | [_, _], _ => rfl)
theorem cb_Calendar_has_moment (V : WD K mg) : CalB P w K mg base 1 (He.ma K (He.ga K "Calendar") "has_moment") b_Calendar_has_moment := by
  obtain ⟨fd, F⟩ := V.d.def_ 4 (d := df_4) rfl
  exact cal_B F sc_Calendar_has_moment (ok_Calendar_has_moment V _) (fun _ _ _ _ _ _ us hl => match us, hl with | [_, _], _ => rfl)
/-! is_integer -/
def s_is_integer : En → SR :=
  (sRet (eAnd (eUn (isiB ["int"] []) (bVar 0)) (eNot (eUn (isiB ["bool"] []) (bVar 0)))))
def d_is_integer : List D → Res D := runF 1 1 s_is_integer
abbrev nm_is_integer : List Str := ["value"]
theorem sc_is_integer : FnScope nm_is_integer ["value"] (defScope (top 5)) := ⟨rfl, rfl, rfl, by decide +kernel, rfl, by decide +kernel, by decide +kernel⟩
theorem ok_is_integer (V : WD K mg) (fA : Addr) : BodyOk P w K mg base 0 nm_is_integer "is_integer" (defScope (top 5)) fA (defBody (top 5)) s_is_integer := by
  intro cdv A outer s H E hr
  have nd := (sc_is_integer).nd
  exact (dss_one (ds_ret (de_and (de_isi1 (cs := []) rfl (f_isinstance V) PyProof.Rows.boot_isinstance rfl (f_int V) PyProof.Rows.boot_int (by decide) ⟨fun _ h => nomatch h⟩ (db_var (i := 0))) (de_one (de_not (de_isi1 (cs := []) rfl (f_isinstance V) PyProof.Rows.boot_isinstance rfl (f_bool V) PyProof.Rows.boot_bool (by decide) ⟨fun _ h => nomatch h⟩ (db_var (i := 0))))))))
theorem c_is_integer (V : WD K mg) : CalA P w K mg base 1 (He.ga K "is_integer") d_is_integer := by
  obtain ⟨fd, F⟩ := V.d.def_ 5 (d := df_5) rfl
  exact cal_A F sc_is_integer (ok_is_integer V _) (fun _ _ _ _ _ _ us hl => match us, hl with | [_], _ => rfl)
/-! is_name -/
def s_is_name_1 : En → SR :=
  (sIf (tOrD (tNotD (tOfE (eUn (isiB ["str"] []) (bVar 0)))) (tOrD (tNotD (tOfE (eChain leI leI (bOf (eC (.int 1))) (bOf (eUn (orU lenD lenK) (bVar 0))) (bOf (eC (.int (6))))))) (tOfE (eBin eqD (bVar 0) (bOf (eC (.str "day"))))))) (sRet (eC (.bl false))) sNop)
def e_is_name_1 : En → Res (D × En) :=
  (eLc (iSeq (eVar 0)) (gNm 1) tYesD (eBin inStr (bVar 1) (bOf (eC (.str "abcdefghijklmnopqrstuvwxyz")))) [1])
def s_is_name : En → SR :=
  (sSeq s_is_name_1
  (sRet (eUn allD (bOf e_is_name_1))))
def d_is_name : List D → Res D := runF 2 1 s_is_name
abbrev nm_is_name : List Str := ["value", "letter"]
theorem sc_is_name : FnScope nm_is_name ["value"] (defScope (top 7)) := ⟨rfl, rfl, rfl, by decide +kernel, rfl, by decide +kernel, by decide +kernel⟩
theorem ok_is_name (V : WD K mg) (fA : Addr) : BodyOk P w K mg base 0 nm_is_name "is_name" (defScope (top 7)) fA (defBody (top 7)) s_is_name := by
  intro cdv A outer s H E hr
  have nd := (sc_is_name).nd
  exact (dss_cons (ds_if (DW.dt (dw_or (dt_not (dt_val (de_isi1 (cs := []) rfl (f_isinstance V) PyProof.Rows.boot_isinstance rfl (f_str V) PyProof.Rows.boot_str (by decide) ⟨fun _ h => nomatch h⟩ (db_var (i := 0))))) (dw_or (dt_not (dt_chain op_le ov_le op_le ov_le (DE.db de_int) (DE.db (de_len  (f_len V) (db_var (i := 0)))) (DE.db (de_gint rfl (gi_MOST_LETTERS V))))) (dw_or1 (DC.dt (dc_eq hr (db_var (i := 0)) (DE.db (de_gstr rfl (gs_ZERO V))))))))) (dss_one (ds_ret de_bl)) dss_nil)
  (dss_one (ds_ret (de_all rfl (f_all V) (DE.db (DN.de (dn_lc (own := [("letter", 1)]) rfl nd (di_seq (de_var (i := 0))) (by refine ⟨rfl, ?_, ?_, ?_, ?_⟩ <;> first | exact of_decide_eq_true (by kernel_rfl) | decide +kernel) (fun _ _ _ _ _ => (dg_name (i := 1) (vs := [1]) (by decide) nd)) (fun _ _ _ _ _ => dts_nil) (fun _ _ _ _ _ => (DC.de (dc_inS (db_var (i := 1)) (DE.db (de_gstr rfl (gs_LETTERS V)))))))))))))
theorem c_is_name (V : WD K mg) : CalA P w K mg base 1 (He.ga K "is_name") d_is_name := by
  obtain ⟨fd, F⟩ := V.d.def_ 6 (d := df_6) rfl
  exact cal_A F sc_is_name (ok_is_name V _) (fun _ _ _ _ _ _ us hl => match us, hl with | [_], _ => rfl)
/-! is_moment -/
def s_is_moment : En → SR :=
  (sRet (eOr (eCall d_is_name (aCons (eVar 0) aNil)) (eAnd (eUn (isiB ["str"] []) (bVar 0)) (eBin eqD (bVar 0) (bOf (eC (.str "day")))))))
def d_is_moment : List D → Res D := runF 1 1 s_is_moment
abbrev nm_is_moment : List Str := ["value"]
theorem sc_is_moment : FnScope nm_is_moment ["value"] (defScope (top 8)) := ⟨rfl, rfl, rfl, by decide +kernel, rfl, by decide +kernel, by decide +kernel⟩
theorem ok_is_moment (V : WD K mg) (fA : Addr) : BodyOk P w K mg base 1 nm_is_moment "is_moment" (defScope (top 8)) fA (defBody (top 8)) s_is_moment := by
  intro cdv A outer s H E hr
  have nd := (sc_is_moment).nd
  exact (dss_one (ds_ret (de_or (de_call (c_is_name V) tk_def hr (by decide) rfl (g_is_name V) (da_cons (de_var (i := 0)) da_nil)) (de_one (de_and (de_isi1 (cs := []) rfl (f_isinstance V) PyProof.Rows.boot_isinstance rfl (f_str V) PyProof.Rows.boot_str (by decide) ⟨fun _ h => nomatch h⟩ (db_var (i := 0))) (de_one (DC.de (dc_eq hr (db_var (i := 0)) (DE.db (de_gstr rfl (gs_ZERO V)))))))))))
theorem c_is_moment (V : WD K mg) : CalA P w K mg base 2 (He.ga K "is_moment") d_is_moment := by
  obtain ⟨fd, F⟩ := V.d.def_ 7 (d := df_7) rfl
  exact cal_A F sc_is_moment (ok_is_moment V _) (fun _ _ _ _ _ _ us hl => match us, hl with | [_], _ => rfl)
/-! is_clause -/
def s_is_clause_1 : En → SR :=
  (sIf (tOrD (tNotD (tOfE (eUn (isiB ["tuple"] []) (bVar 0)))) (tOrD (tOfE (eBin neD (bOf (eUn (orU lenD lenK) (bVar 0))) (bOf (eC (.int 3))))) (tNotD (tOfE (eCall d_is_integer (aCons (eBin ixG (bVar 0) (bOf (eC (.int 2)))) aNil)))))) (sRet (eC (.bl false))) sNop)
def s_is_clause : En → SR :=
  (sSeq s_is_clause_1
  (sRet (eAnd (eCall d_is_moment (aCons (eBin ixG (bVar 0) (bOf (eC (.int 0)))) aNil)) (eAnd (eCall d_is_moment (aCons (eBin ixG (bVar 0) (bOf (eC (.int 1)))) aNil)) (eBin neD (bOf (eBin ixG (bVar 0) (bOf (eC (.int 0))))) (bOf (eBin ixG (bVar 0) (bOf (eC (.int 1))))))))))
def d_is_clause : List D → Res D := runF 1 1 s_is_clause
abbrev nm_is_clause : List Str := ["value"]
theorem sc_is_clause : FnScope nm_is_clause ["value"] (defScope (top 9)) := ⟨rfl, rfl, rfl, by decide +kernel, rfl, by decide +kernel, by decide +kernel⟩
theorem ok_is_clause (V : WD K mg) (fA : Addr) : BodyOk P w K mg base 2 nm_is_clause "is_clause" (defScope (top 9)) fA (defBody (top 9)) s_is_clause := by
  intro cdv A outer s H E hr
  have nd := (sc_is_clause).nd
  exact (dss_cons (ds_if (DW.dt (dw_or (dt_not (dt_val (de_isi1 (cs := []) rfl (f_isinstance V) PyProof.Rows.boot_isinstance rfl (f_tuple V) PyProof.Rows.boot_tuple (by decide) ⟨fun _ h => nomatch h⟩ (db_var (i := 0))))) (dw_or (DC.dt (dc_ne hr (DE.db (de_len  (f_len V) (db_var (i := 0)))) (DE.db de_int))) (dw_or1 (dt_not (dt_val (de_call (c_is_integer V) tk_def hr (by decide) rfl (g_is_integer V) (da_cons (de_at (db_var (i := 0)) (DE.db de_int)) da_nil)))))))) (dss_one (ds_ret de_bl)) dss_nil)
  (dss_one (ds_ret (de_and (de_call (c_is_moment V) tk_def hr (by decide) rfl (g_is_moment V) (da_cons (de_at (db_var (i := 0)) (DE.db de_int)) da_nil)) (de_and (de_call (c_is_moment V) tk_def hr (by decide) rfl (g_is_moment V) (da_cons (de_at (db_var (i := 0)) (DE.db de_int)) da_nil)) (de_one (DC.de (dc_ne hr (DE.db (de_at (db_var (i := 0)) (DE.db de_int))) (DE.db (de_at (db_var (i := 0)) (DE.db de_int)))))))))))
theorem c_is_clause (V : WD K mg) : CalA P w K mg base 3 (He.ga K "is_clause") d_is_clause := by
  obtain ⟨fd, F⟩ := V.d.def_ 8 (d := df_8) rfl
  exact cal_A F sc_is_clause (ok_is_clause V _) (fun _ _ _ _ _ _ us hl => match us, hl with | [_], _ => rfl)
theorem c_al_is_clause_basics (V : WD K mg) : CalA P w K mg base 3 (He.ga K "is_clause_basics") d_is_clause := by
  obtain ⟨fd, F⟩ := V.d.def_ 24 (d := df_24) rfl
  exact cal_A F sc_is_clause (ok_is_clause V _) (fun _ _ _ _ _ _ us hl => match us, hl with | [_], _ => rfl)
/-! Calendar_is_own_form -/
def s_Calendar_is_own_form_1 : En → SR :=
  (sRet (eAnd (eCall d_is_clause (aCons (eVar 1) aNil)) (eAnd (eAlt (eMethB "Calendar" "has_moment" b_Calendar_has_moment 0 (aCons (eBin ixG (bVar 1) (bOf (eC (.int 0)))) aNil)) (eMeth "Calendar" "has_moment" d_Calendar_has_moment (eVar 0) (aCons (eBin ixG (bVar 1) (bOf (eC (.int 0)))) aNil))) (eAlt (eMethB "Calendar" "has_moment" b_Calendar_has_moment 0 (aCons (eBin ixG (bVar 1) (bOf (eC (.int 1)))) aNil)) (eMeth "Calendar" "has_moment" d_Calendar_has_moment (eVar 0) (aCons (eBin ixG (bVar 1) (bOf (eC (.int 1)))) aNil))))))
def s_Calendar_is_own_form : En → SR :=
  s_Calendar_is_own_form_1
def d_Calendar_is_own_form : List D → Res D := runF 2 2 s_Calendar_is_own_form
def b_Calendar_is_own_form : D → List D → Res (D × D) := runB 2 2 s_Calendar_is_own_form
abbrev nm_Calendar_is_own_form : List Str := ["self", "value"]
theorem sc_Calendar_is_own_form : FnScope nm_Calendar_is_own_form ["self", "value"] (defScope (mth 19 5)) := ⟨rfl, rfl, rfl, by decide +kernel, rfl, by decide +kernel, by decide +kernel⟩
theorem ok_Calendar_is_own_form (V : WD K mg) (fA : Addr) : BodyOk P w K mg base 3 nm_Calendar_is_own_form "Calendar.is_own_form" (defScope (mth 19 5)) fA (defBody (mth 19 5)) s_Calendar_is_own_form := by
  intro cdv A outer s H E hr
  have nd := (sc_Calendar_is_own_form).nd
  exact (dss_one (ds_ret (de_and (de_call (c_al_is_clause_basics V) tk_def hr (by decide) rfl (g_is_clause_basics V) (da_cons (de_var (i := 1)) da_nil)) (de_and (DE.alt (de_methB (i := 0) (c := "Calendar") (cb_Calendar_has_moment V) tk_def hr (by decide) (g_Calendar V) (cl_Calendar V) (m_Calendar_has_moment V) (da_cons (de_at (db_var (i := 1)) (DE.db de_int)) da_nil)) (de_meth (c := "Calendar") (c_Calendar_has_moment V) tk_def hr (by decide) (g_Calendar V) (cl_Calendar V) (m_Calendar_has_moment V) (de_var (i := 0)) (da_cons (de_at (db_var (i := 1)) (DE.db de_int)) da_nil))) (de_one (DE.alt (de_methB (i := 0) (c := "Calendar") (cb_Calendar_has_moment V) tk_def hr (by decide) (g_Calendar V) (cl_Calendar V) (m_Calendar_has_moment V) (da_cons (de_at (db_var (i := 1)) (DE.db de_int)) da_nil)) (de_meth (c := "Calendar") (c_Calendar_has_moment V) tk_def hr (by decide) (g_Calendar V) (cl_Calendar V) (m_Calendar_has_moment V) (de_var (i := 0)) (da_cons (de_at (db_var (i := 1)) (DE.db de_int)) da_nil))))))))
theorem c_Calendar_is_own_form (V : WD K mg) : CalA P w K mg base 4 (He.ma K (He.ga K "Calendar") "is_own_form") d_Calendar_is_own_form := by
  obtain ⟨fd, F⟩ := V.d.def_ 9 (d := df_9) rfl
  exact cal_A F sc_Calendar_is_own_form (ok_Calendar_is_own_form V _) (fun _ _ _ _ _ _ us hl => match us, hl with | [_, _], _ => rfl)
theorem cb_Calendar_is_own_form (V : WD K mg) : CalB P w K mg base 4 (He.ma K (He.ga K "Calendar") "is_own_form") b_Calendar_is_own_form := by
  obtain ⟨fd, F⟩ := V.d.def_ 9 (d := df_9) rfl
  exact cal_B F sc_Calendar_is_own_form (ok_Calendar_is_own_form V _) (fun _ _ _ _ _ _ us hl => match us, hl with | [_, _], _ => rfl)
/-! is_list -/
def s_is_list : En → SR :=
  (sRet (eUn (isiB ["list", "tuple"] []) (bOf (eVar 0))))
def d_is_list : List D → Res D := runF 1 1 s_is_list
abbrev nm_is_list : List Str := ["value"]
theorem sc_is_list : FnScope nm_is_list ["value"] (defScope (top 6)) := ⟨rfl, rfl, rfl, by decide +kernel, rfl, by decide +kernel, by decide +kernel⟩
theorem ok_is_list (V : WD K mg) (fA : Addr) : BodyOk P w K mg base 0 nm_is_list "is_list" (defScope (top 6)) fA (defBody (top 6)) s_is_list := by
  intro cdv A outer s H E hr
  have nd := (sc_is_list).nd
  exact (dss_one (ds_ret (de_isiT (ns := ["list", "tuple"]) (cs := []) rfl (f_isinstance V) PyProof.Rows.boot_isinstance (pa_ty1 rfl (f_list V) PyProof.Rows.boot_list (pa_ty1 rfl (f_tuple V) PyProof.Rows.boot_tuple pa_ty0)) (by decide) (by decide) ⟨fun _ h => nomatch h⟩ (de_var (i := 0)))))
theorem c_is_list (V : WD K mg) : CalA P w K mg base 1 (He.ga K "is_list") d_is_list := by
  obtain ⟨fd, F⟩ := V.d.def_ 10 (d := df_10) rfl
  exact cal_A F sc_is_list (ok_is_list V _) (fun _ _ _ _ _ _ us hl => match us, hl with | [_], _ => rfl)
/-! Calendar_init -/
def s_Calendar_init_1 : En → SR :=
  (sIf (tNotD (tOfE (eCall d_is_list (aCons (eVar 1) aNil)))) (fun _ => .bad) sNop)
def s_Calendar_init_2_1 : En → SR :=
  (sIf (tOrD (tNotD (tOfE (eCall d_is_name (aCons (eVar 4) aNil)))) (tOfE (eBin inLst (bVar 4) (bOf (eSl slL (bVar 1) doNone (doSome (eVar 3))))))) (fun _ => .bad) sNop)
def s_Calendar_init_2 : En → SR :=
  (sFor (iEn (aCons (eVar 1) aNil)) (gTp 2 (gsCons (gNm 3) (gsCons (gNm 4) gsNil))) s_Calendar_init_2_1)
def s_Calendar_init_4 : En → SR :=
  (sIf (tNotD (tOfE (eCall d_is_list (aCons (eVar 2) aNil)))) (fun _ => .bad) sNop)
def s_Calendar_init_5_1 : En → SR :=
  (sIf (tOrD (tNotD (tOfE (eAlt (eMethB "Calendar" "is_own_form" b_Calendar_is_own_form 0 (aCons (eVar 5) aNil)) (eMeth "Calendar" "is_own_form" d_Calendar_is_own_form (eVar 0) (aCons (eVar 5) aNil))))) (tOfE (eBin inLst (bVar 5) (bOf (eSl slL (bVar 2) doNone (doSome (eVar 3))))))) (fun _ => .bad) sNop)
def s_Calendar_init_5 : En → SR :=
  (sFor (eAlt (iEn (aCons (eVar 2) aNil)) (iEnT (aCons (eVar 2) aNil))) (gTp 2 (gsCons (gNm 3) (gsCons (gNm 5) gsNil))) s_Calendar_init_5_1)
def s_Calendar_init_7 : En → SR :=
  (sIf (tOfE (eBin gtI (bOf (eUn (orU lenD lenK) (bOf (eUn (fldD ["Calendar"] "own_moments") (bVar 0))))) (bOf (eUn (conD "Calendar" "MOST_MOMENTS" (.int 8)) (bVar 0))))) (fun _ => .bad) sNop)
def s_Calendar_init_8 : En → SR :=
  (sIf (tOfE (eBin gtI (bOf (eUn (orU lenD lenK) (bOf (eUn (fldD ["Calendar"] "own_clauses") (bVar 0))))) (bOf (eUn (conD "Calendar" "MOST_CLAUSES" (.int 40)) (bVar 0))))) (fun _ => .bad) sNop)
def s_Calendar_init : En → SR :=
  (sSeq s_Calendar_init_1
  (sSeq s_Calendar_init_2
  (sSeq (sFldSet ["Calendar"] "own_moments" 0 (eUn sortedD (bVar 1)))
  (sSeq s_Calendar_init_4
  (sSeq s_Calendar_init_5
  (sSeq (sFldSet ["Calendar"] "own_clauses" 0 (eUn listD (bVar 2)))
  (sSeq s_Calendar_init_7
  s_Calendar_init_8)))))))
def b_Calendar_init : D → List D → Res (D × D) := runB 6 3 s_Calendar_init
abbrev nm_Calendar_init : List Str := ["self", "moments", "clauses", "position", "moment", "clause"]
theorem sc_Calendar_init : FnScope nm_Calendar_init ["self", "moments", "clauses"] (defScope (mth 19 3)) := ⟨rfl, rfl, rfl, by decide +kernel, rfl, by decide +kernel, by decide +kernel⟩
theorem ok_Calendar_init (V : WD K mg) (fA : Addr) : BodyOk P w K mg base 4 nm_Calendar_init "Calendar.__init__" (defScope (mth 19 3)) fA (defBody (mth 19 3)) s_Calendar_init := by
  intro cdv A outer s H E hr
  have nd := (sc_Calendar_init).nd
  obtain ⟨t_cn_Calendar_MOST_CLAUSES, h_cn_Calendar_MOST_CLAUSES⟩ := cn_Calendar_MOST_CLAUSES V
  obtain ⟨t_cn_Calendar_MOST_MOMENTS, h_cn_Calendar_MOST_MOMENTS⟩ := cn_Calendar_MOST_MOMENTS V
  exact (dss_cons (ds_if (dt_not (dt_val (de_call (c_is_list V) tk_def hr (by decide) rfl (g_is_list V) (da_cons (de_var (i := 1)) da_nil)))) (dss_one ds_never) dss_nil)
  (dss_cons (ds_for own_def rfl (di_enum rfl (f_enumerate V) (da_cons (de_var (i := 1)) da_nil)) (dg_tup (n := 2) rfl (dgs_cons (dg_name (i := 3) (vs := [3, 4]) (by decide) nd) (dgs_cons (dg_name (i := 4) (vs := [3, 4]) (by decide) nd) dgs_nil))) (dss_one (ds_if (DW.dt (dw_or (dt_not (dt_val (de_call (c_is_name V) tk_def hr (by decide) rfl (g_is_name V) (da_cons (de_var (i := 4)) da_nil)))) (dw_or1 (DC.dt (dc_inL hr (db_var (i := 4)) (DE.db (DN.de (dn_sl (db_var (i := 1)) do_none (do_some (de_var (i := 3))))))))))) (dss_one ds_never) dss_nil)))
  (dss_cons (ds_fldset (i := 0) (na_Calendar_own_moments V) (DN.de (dn_sorted hr (f_sorted V) (db_var (i := 1)))))
  (dss_cons (ds_if (dt_not (dt_val (de_call (c_is_list V) tk_def hr (by decide) rfl (g_is_list V) (da_cons (de_var (i := 2)) da_nil)))) (dss_one ds_never) dss_nil)
  (dss_cons (ds_for own_def rfl (DI.alt (di_enum rfl (f_enumerate V) (da_cons (de_var (i := 2)) da_nil)) (di_enumT rfl (f_enumerate V) (da_cons (de_var (i := 2)) da_nil))) (dg_tup (n := 2) rfl (dgs_cons (dg_name (i := 3) (vs := [3, 5]) (by decide) nd) (dgs_cons (dg_name (i := 5) (vs := [3, 5]) (by decide) nd) dgs_nil))) (dss_one (ds_if (DW.dt (dw_or (dt_not (dt_val (DE.alt (de_methB (i := 0) (c := "Calendar") (cb_Calendar_is_own_form V) tk_def hr (by decide) (g_Calendar V) (cl_Calendar V) (m_Calendar_is_own_form V) (da_cons (de_var (i := 5)) da_nil)) (de_meth (c := "Calendar") (c_Calendar_is_own_form V) tk_def hr (by decide) (g_Calendar V) (cl_Calendar V) (m_Calendar_is_own_form V) (de_var (i := 0)) (da_cons (de_var (i := 5)) da_nil))))) (dw_or1 (DC.dt (dc_inL hr (db_var (i := 5)) (DE.db (DN.de (dn_sl (db_var (i := 2)) do_none (do_some (de_var (i := 3))))))))))) (dss_one ds_never) dss_nil)))
  (dss_cons (ds_fldset (i := 0) (na_Calendar_own_clauses V) (DN.de (dn_list1  (f_list V) (db_var (i := 2)))))
  (dss_cons (ds_if (DC.dt (dc_gt (DE.db (de_len  (f_len V) (DE.db (de_fld (na_Calendar_own_moments V) (db_var (i := 0)))))) (DE.db (de_con (c := "Calendar") (d := .int 8) (g_Calendar V) (cl_Calendar V) h_cn_Calendar_MOST_MOMENTS (fun _ => rfl) (db_var (i := 0)))))) (dss_one ds_never) dss_nil)
  (dss_one (ds_if (DC.dt (dc_gt (DE.db (de_len  (f_len V) (DE.db (de_fld (na_Calendar_own_clauses V) (db_var (i := 0)))))) (DE.db (de_con (c := "Calendar") (d := .int 40) (g_Calendar V) (cl_Calendar V) h_cn_Calendar_MOST_CLAUSES (fun _ => rfl) (db_var (i := 0)))))) (dss_one ds_never) dss_nil)))))))))
theorem c_Calendar_init (V : WD K mg) : CalB P w K mg base 5 (He.ma K (He.ga K "Calendar") "__init__") b_Calendar_init := by
  obtain ⟨fd, F⟩ := V.d.def_ 11 (d := df_11) rfl
  have e : (fun d as => b_Calendar_init d (as ++ [])) = b_Calendar_init := by
    funext d as
    rw [List.append_nil]
  rw [← e]
  exact cal_BD (dds := []) F sc_Calendar_init (ok_Calendar_init V _) 3 1 (by simp [He.DefD.dvs]) rfl (fun F => rfl) (fun _ _ _ _ _ _ _ us its hl hi => match us, hl, its, hi with | [_, _, _], _, [_], _ => ⟨_, rfl, rfl⟩)
def b_Calendar_init_1 : D → List D → Res (D × D) := (fun d as => b_Calendar_init d (as ++ [.tup []]))
theorem c_Calendar_init_1 (V : WD K mg) : CalB P w K mg base 5 (He.ma K (He.ga K "Calendar") "__init__") b_Calendar_init_1 := by
  obtain ⟨fd, F⟩ := V.d.def_ 11 (d := df_11) rfl
  exact cal_BD (dds := [.tup []]) F sc_Calendar_init (ok_Calendar_init V _) 2 0 (by simp [He.DefD.dvs]) rfl (fun F => ⟨_, _, rfl, fb_tup0 (V.fbs 6) F, rfl⟩) (fun _ _ _ _ _ _ _ us its hl hi => match us, hl, its, hi with | [_, _], _, [_], _ => ⟨_, rfl, rfl⟩)
/-! Calendar_or -/
def s_Calendar_or_1 : En → SR :=
  (sIf (tNotD (tOfE (eUn (isiO "Calendar" []) (bVar 1)))) (fun _ => .bad) sNop)
def e_Calendar_or_1 : En → Res (D × En) :=
  (eLc (iSeq (eMeth "Calendar" "moments" d_Calendar_moments (eVar 1) aNil)) (gNm 3) (tOfE (eBin ninLst (bVar 3) (bOf (eUn (fldD ["Calendar"] "own_moments") (bVar 0))))) (eVar 3) [3])
def e_Calendar_or_2 : En → Res (D × En) :=
  (eLc (iSeq (eMeth "Calendar" "clauses" d_Calendar_clauses (eVar 1) aNil)) (gNm 5) (tOfE (eBin ninLst (bVar 5) (bOf (eUn (fldD ["Calendar"] "own_clauses") (bVar 0))))) (eVar 5) [5])
def s_Calendar_or : En → SR :=
  (sSeq s_Calendar_or_1
  (sSeq (sSet 2 e_Calendar_or_1)
  (sSeq (sSet 4 e_Calendar_or_2)
  (sRet (eMake "Calendar" b_Calendar_init (aCons (eBin catL (bOf (eUn (fldD ["Calendar"] "own_moments") (bVar 0))) (bVar 2)) (aCons (eBin catL (bOf (eUn (fldD ["Calendar"] "own_clauses") (bVar 0))) (bVar 4)) aNil)))))))
def d_Calendar_or : List D → Res D := runF 6 2 s_Calendar_or
abbrev nm_Calendar_or : List Str := ["self", "other", "moments", "moment", "clauses", "clause"]
theorem sc_Calendar_or : FnScope nm_Calendar_or ["self", "other"] (defScope (mth 19 22)) := ⟨rfl, rfl, rfl, by decide +kernel, rfl, by decide +kernel, by decide +kernel⟩
theorem ok_Calendar_or (V : WD K mg) (fA : Addr) : BodyOk P w K mg base 6 nm_Calendar_or "Calendar.__or__" (defScope (mth 19 22)) fA (defBody (mth 19 22)) s_Calendar_or := by
  intro cdv A outer s H E hr
  have nd := (sc_Calendar_or).nd
  exact (dss_cons (ds_if (dt_not (dt_val (de_isiO (cs := []) rfl (f_isinstance V) PyProof.Rows.boot_isinstance rfl (g_Calendar V) (no_Calendar V) (in_Calendar V) (fun _ h => nomatch h) (db_var (i := 1))))) (dss_one ds_never) dss_nil)
  (dss_cons (ds_setLc (i := 2) (own := [("moment", 3)]) rfl nd (di_seq (de_meth0 (c := "Calendar") (c_Calendar_moments V) tk_def hr (by decide) (g_Calendar V) (cl_Calendar V) (m_Calendar_moments V) (de_var (i := 1)))) (by refine ⟨rfl, ?_, ?_, ?_, ?_⟩ <;> first | exact of_decide_eq_true (by kernel_rfl) | decide +kernel) (fun _ _ _ _ _ => (dg_name (i := 3) (vs := [3]) (by decide) nd)) (fun _ _ _ _ _ => (dts_one (DC.dt (dc_ninL hr (db_var (i := 3)) (DE.db (de_fld (na_Calendar_own_moments V) (db_var (i := 0)))))))) (fun _ _ _ _ _ => (de_var (i := 3))) rfl)
  (dss_cons (ds_setLc (i := 4) (own := [("clause", 5)]) rfl nd (di_seq (de_meth0 (c := "Calendar") (c_Calendar_clauses V) tk_def hr (by decide) (g_Calendar V) (cl_Calendar V) (m_Calendar_clauses V) (de_var (i := 1)))) (by refine ⟨rfl, ?_, ?_, ?_, ?_⟩ <;> first | exact of_decide_eq_true (by kernel_rfl) | decide +kernel) (fun _ _ _ _ _ => (dg_name (i := 5) (vs := [5]) (by decide) nd)) (fun _ _ _ _ _ => (dts_one (DC.dt (dc_ninL hr (db_var (i := 5)) (DE.db (de_fld (na_Calendar_own_clauses V) (db_var (i := 0)))))))) (fun _ _ _ _ _ => (de_var (i := 5))) rfl)
  (dss_one (ds_ret (DN.de (dn_make (c_Calendar_init V) tk_def hr (by decide) rfl (g_Calendar V) (mk_Calendar V) (da_cons (DN.de (dn_cat (DE.db (de_fld (na_Calendar_own_moments V) (db_var (i := 0)))) (db_var (i := 2)))) (da_cons (DN.de (dn_cat (DE.db (de_fld (na_Calendar_own_clauses V) (db_var (i := 0)))) (db_var (i := 4)))) da_nil)))))))))
theorem c_Calendar_or (V : WD K mg) : CalA P w K mg base 7 (He.ma K (He.ga K "Calendar") "__or__") d_Calendar_or := by
  obtain ⟨fd, F⟩ := V.d.def_ 12 (d := df_12) rfl
  exact cal_A F sc_Calendar_or (ok_Calendar_or V _) (fun _ _ _ _ _ _ us hl => match us, hl with | [_, _], _ => rfl)
/-! ldraw -/
def s_ldraw_1 : En → SR :=
  (sIf (tOfE (eBin gtI (bOf (eBin ixG (bVar 0) (bOf (eC (.int 0))))) (bOf (eC (.int 0))))) (sSeq (sAsg (eBin divmodD (bOf (eBin ixG (bVar 0) (bOf (eC (.int 0))))) (bVar 1)) (gTp 2 (gsCons (gSetIx 0 (eC (.int 0))) (gsCons (gNm 2) gsNil))))
  (sRet (eVar 2))) sNop)
def s_ldraw : En → SR :=
  (sSeq s_ldraw_1
  (sSeq (sAsg (eBin modI (bOf (eUn intD (bOf (eBin addI (bOf (eBin mulI (bOf (eBin ixG (bVar 0) (bOf (eC (.int 1))))) (bOf (eC (.int 48271))))) (bOf (eC (.int 11027))))))) (bOf (eC (.int 2147483587)))) (gSetIx 0 (eC (.int 1))))
  (sRet (eBin modI (bOf (eUn intD (bOf (eBin fdivI (bOf (eBin modI (bOf (eUn intD (bOf (eBin mulI (bOf (eBin ixG (bVar 0) (bOf (eC (.int 1))))) (bOf (eBin ixG (bVar 0) (bOf (eC (.int 1))))))))) (bOf (eC (.int 2147483489))))) (bOf (eC (.int 13))))))) (bVar 1)))))
def b_ldraw : D → List D → Res (D × D) := runB 3 2 s_ldraw
abbrev nm_ldraw : List Str := ["_law_pot_here", "_law_faces", "_law_digit"]
theorem sc_ldraw : FnScope nm_ldraw ["_law_pot_here", "_law_faces"] (defScope (top 22)) := ⟨rfl, rfl, rfl, by decide +kernel, rfl, by decide +kernel, by decide +kernel⟩
theorem ok_ldraw (V : WD K mg) (fA : Addr) : BodyOk P w K mg base 0 nm_ldraw "_law_draw" (defScope (top 22)) fA (defBody (top 22)) s_ldraw := by
  intro cdv A outer s H E hr
  have nd := (sc_ldraw).nd
  exact (dss_cons (ds_if (DC.dt (dc_gt (DE.db (de_at (db_var (i := 0)) (DE.db de_int))) (DE.db de_int))) (dss_cons (ds_asg (de_divmod rfl (f_divmod V) PyProof.Rows.boot_divmod (DE.db (de_at (db_var (i := 0)) (DE.db de_int))) (db_var (i := 1))) (dg_tup (n := 2) rfl (dgs_cons (dg_setix (i := 0) (vs := [2]) de_int) (dgs_cons (dg_name (i := 2) (vs := [2]) (by decide) nd) dgs_nil))))
  (dss_one (ds_ret (de_var (i := 2))))) dss_nil)
  (dss_cons (ds_asg (de_mod (DE.db (de_int1  (f_int V) (DE.db (de_add (DE.db (de_mul (DE.db (de_at (db_var (i := 0)) (DE.db de_int))) (DE.db de_int))) (DE.db de_int))))) (DE.db de_int)) (dg_setix (i := 0) (vs := []) de_int))
  (dss_one (ds_ret (de_mod (DE.db (de_int1  (f_int V) (DE.db (de_fdiv (DE.db (de_mod (DE.db (de_int1  (f_int V) (DE.db (de_mul (DE.db (de_at (db_var (i := 0)) (DE.db de_int))) (DE.db (de_at (db_var (i := 0)) (DE.db de_int))))))) (DE.db de_int))) (DE.db de_int))))) (db_var (i := 1)))))))
theorem c_ldraw (V : WD K mg) : CalB P w K mg base 1 (He.ga K "_law_draw") b_ldraw := by
  obtain ⟨fd, F⟩ := V.d.def_ 13 (d := df_13) rfl
  exact cal_B F sc_ldraw (ok_ldraw V _) (fun _ _ _ _ _ _ us hl => match us, hl with | [_, _], _ => rfl)
/-! lpick -/
def s_lpick : En → SR :=
  (sRet (eBin ixG (bVar 1) (bOf (eCallB b_ldraw 0 (aCons (eUn (orU lenD lenK) (bVar 1)) aNil)))))
def b_lpick : D → List D → Res (D × D) := runB 2 2 s_lpick
abbrev nm_lpick : List Str := ["_law_pot_here", "_law_some"]
theorem sc_lpick : FnScope nm_lpick ["_law_pot_here", "_law_some"] (defScope (top 23)) := ⟨rfl, rfl, rfl, by decide +kernel, rfl, by decide +kernel, by decide +kernel⟩
theorem ok_lpick (V : WD K mg) (fA : Addr) : BodyOk P w K mg base 1 nm_lpick "_law_pick" (defScope (top 23)) fA (defBody (top 23)) s_lpick := by
  intro cdv A outer s H E hr
  have nd := (sc_lpick).nd
  exact (dss_one (ds_ret (de_at (db_var (i := 1)) (DE.db (de_callB (i := 0) (c_ldraw V) tk_def hr (by decide) rfl (g_law_draw V) (da_cons (de_len  (f_len V) (db_var (i := 1))) da_nil))))))
theorem c_lpick (V : WD K mg) : CalB P w K mg base 2 (He.ga K "_law_pick") b_lpick := by
  obtain ⟨fd, F⟩ := V.d.def_ 14 (d := df_14) rfl
  exact cal_B F sc_lpick (ok_lpick V _) (fun _ _ _ _ _ _ us hl => match us, hl with | [_, _], _ => rfl)
/-! ldraft -/
def s_ldraft_1 : En → SR :=
  (sSet 1 (eBin ixG (bOf (eLst (aCons (eLst (aCons (eC (.str "a")) (aCons (eC (.str "m")) aNil))) (aCons (eLst (aCons (eC (.str "m")) aNil)) (aCons (eLst (aCons (eC (.str "b")) (aCons (eC (.str "m")) (aCons (eC (.str "a")) aNil)))) (aCons (eLst (aCons (eC (.str "n")) (aCons (eC (.str "a")) aNil))) (aCons (eLst aNil) aNil))))))) (bOf (eCallB b_ldraw 0 (aCons (eC (.int 5)) aNil)))))
def e_ldraft_1 : En → Res (D × En) :=
  (eLc (iSeq (eBin catL (bVar 1) (bOf (eLst (aCons (eC (.str "day")) aNil))))) (gNm 6) (tOfE (eBin neD (bVar 6) (bVar 4))) (eVar 6) [6])
def s_ldraft_3_3 : En → SR :=
  (sIf (tOfE (eBin eqD (bOf (eCallB b_ldraw 0 (aCons (eC (.int 2)) aNil))) (bOf (eC (.int 0))))) (sSet 5 (eTup (aCons (eBin ixG (bVar 5) (bOf (eC (.int 1)))) (aCons (eBin ixG (bVar 5) (bOf (eC (.int 0)))) (aCons (eBin ixG (bVar 5) (bOf (eC (.int 2)))) aNil))))) sNop)
def s_ldraft_3_4 : En → SR :=
  (sIf (tOfE (eBin ninLst (bVar 5) (bVar 2))) (sAppend 2 (eVar 5)) sNop)
def s_ldraft_3_b : En → SR :=
  (sSeq (sSet 4 (eCallB b_lpick 0 (aCons (eVar 1) aNil)))
  (sSeq (sSet 5 (eTup (aCons (eVar 4) (aCons (eCallB b_lpick 0 (aCons e_ldraft_1 aNil)) (aCons (eBin subI (bOf (eCallB b_ldraw 0 (aCons (eC (.int 5)) aNil))) (bOf (eC (.int 2)))) aNil)))))
  (sSeq s_ldraft_3_3
  s_ldraft_3_4)))
def s_ldraft_3 : En → SR :=
  (sFor (iRg1 (aCons (eIf (tOfE (eBin neD (bVar 1) (bOf (eLst aNil)))) (eCallB b_ldraw 0 (aCons (eC (.int 5)) aNil)) (eC (.int 0))) aNil)) (gNm 3) s_ldraft_3_b)
def s_ldraft : En → SR :=
  (sSeq s_ldraft_1
  (sSeq (sOwn 2 (eLst aNil))
  (sSeq s_ldraft_3
  (sRet (eTup (aCons (eVar 1) (aCons (eVar 2) aNil)))))))
def b_ldraft : D → List D → Res (D × D) := runB 7 1 s_ldraft
abbrev nm_ldraft : List Str := ["_law_pot_here", "_law_labels", "_law_clauses", "_law_turn", "_law_one", "_law_made", "_law_label"]
theorem sc_ldraft : FnScope nm_ldraft ["_law_pot_here"] (defScope (top 24)) := ⟨rfl, rfl, rfl, by decide +kernel, rfl, by decide +kernel, by decide +kernel⟩
theorem ok_ldraft (V : WD K mg) (fA : Addr) : BodyOk P w K mg base 2 nm_ldraft "_law_draft" (defScope (top 24)) fA (defBody (top 24)) s_ldraft := by
  intro cdv A outer s H E hr
  have nd := (sc_ldraft).nd
  exact (dss_cons (ds_set (i := 1) nd (de_at (DE.db (DN.de (dn_lst (da_cons (DN.de (dn_lst (da_cons de_str (da_cons de_str da_nil)))) (da_cons (DN.de (dn_lst (da_cons de_str da_nil))) (da_cons (DN.de (dn_lst (da_cons de_str (da_cons de_str (da_cons de_str da_nil))))) (da_cons (DN.de (dn_lst (da_cons de_str (da_cons de_str da_nil)))) (da_cons (DN.de (dn_lst da_nil)) da_nil)))))))) (DE.db (de_callB (i := 0) (c_ldraw V) tk_def hr (by decide) rfl (g_law_draw V) (da_cons de_int da_nil)))))
  (dss_cons (ds_own (i := 2) nd (dn_lst da_nil))
  (dss_cons (ds_for own_def rfl (di_range1 rfl (f_range V) (da_cons (de_if (DC.dt (dc_ne hr (db_var (i := 1)) (DE.db (DN.de (dn_lst da_nil))))) (de_callB (i := 0) (c_ldraw V) tk_def hr (by decide) rfl (g_law_draw V) (da_cons de_int da_nil)) de_int) da_nil)) (dg_name (i := 3) (vs := [3]) (by decide) nd) (dss_cons (ds_set (i := 4) nd (de_callB (i := 0) (c_lpick V) tk_def hr (by decide) rfl (g_law_pick V) (da_cons (de_var (i := 1)) da_nil)))
  (dss_cons (ds_set (i := 5) nd (de_tup (da_cons (de_var (i := 4)) (da_cons (de_callB (i := 0) (c_lpick V) tk_def hr (by decide) rfl (g_law_pick V) (da_cons (DN.de (dn_lc (own := [("_law_label", 6)]) rfl nd (di_seq (DN.de (dn_cat (db_var (i := 1)) (DE.db (DN.de (dn_lst (da_cons de_str da_nil))))))) (by refine ⟨rfl, ?_, ?_, ?_, ?_⟩ <;> first | exact of_decide_eq_true (by kernel_rfl) | decide +kernel) (fun _ _ _ _ _ => (dg_name (i := 6) (vs := [6]) (by decide) nd)) (fun _ _ _ _ _ => (dts_one (DC.dt (dc_ne hr (db_var (i := 6)) (db_var (i := 4)))))) (fun _ _ _ _ _ => (de_var (i := 6))))) da_nil)) (da_cons (de_sub (DE.db (de_callB (i := 0) (c_ldraw V) tk_def hr (by decide) rfl (g_law_draw V) (da_cons de_int da_nil))) (DE.db de_int)) da_nil)))))
  (dss_cons (ds_if (DC.dt (dc_eq hr (DE.db (de_callB (i := 0) (c_ldraw V) tk_def hr (by decide) rfl (g_law_draw V) (da_cons de_int da_nil))) (DE.db de_int))) (dss_one (ds_set (i := 5) nd (de_tup (da_cons (de_at (db_var (i := 5)) (DE.db de_int)) (da_cons (de_at (db_var (i := 5)) (DE.db de_int)) (da_cons (de_at (db_var (i := 5)) (DE.db de_int)) da_nil)))))) dss_nil)
  (dss_one (ds_if (DC.dt (dc_ninL hr (db_var (i := 5)) (db_var (i := 2)))) (dss_one (ds_append (i := 2) (de_var (i := 5)))) dss_nil))))))
  (dss_one (ds_ret (de_tup (da_cons (de_var (i := 1)) (da_cons (de_var (i := 2)) da_nil))))))))
theorem c_ldraft (V : WD K mg) : CalB P w K mg base 3 (He.ga K "_law_draft") b_ldraft := by
  obtain ⟨fd, F⟩ := V.d.def_ 15 (d := df_15) rfl
  exact cal_B F sc_ldraft (ok_ldraft V _) (fun _ _ _ _ _ _ us hl => match us, hl with | [_], _ => rfl)
/-! Calendar_contains -/
def s_Calendar_contains_1 : En → SR :=
  (sIf (tOrD (tNotD (tOfE (eUn (isiB ["dict"] []) (bVar 1)))) (tOfE (eBin neD (bOf (eUn (orU lenD lenK) (bVar 1))) (bOf (eUn (orU lenD lenK) (bOf (eUn (fldD ["Calendar"] "own_moments") (bVar 0)))))))) (sRet (eC (.bl false))) sNop)
def e_Calendar_contains_1 : En → Res (D × En) :=
  (eLc (iSeq (eUn (fldD ["Calendar"] "own_moments") (bVar 0))) (gNm 2) tYesD (eAnd (eBin dinD (bVar 2) (bVar 1)) (eCall d_is_integer (aCons (eBin dgetD (bVar 1) (bVar 2)) aNil))) [2])
def s_Calendar_contains_2 : En → SR :=
  (sIf (tNotD (tOfE (eUn allD (bOf e_Calendar_contains_1)))) (sRet (eC (.bl false))) sNop)
def e_Calendar_contains_2 : En → Res (D × En) :=
  (eLc (iSeq (eUn (fldD ["Calendar"] "own_clauses") (bVar 0))) (gTp 3 (gsCons (gNm 4) (gsCons (gNm 5) (gsCons (gNm 6) gsNil)))) tYesD (eBin leI (bOf (eBin dgetD (bVar 3) (bVar 4))) (bOf (eBin addI (bOf (eBin dgetD (bVar 3) (bVar 5))) (bVar 6)))) [4, 5, 6])
def s_Calendar_contains : En → SR :=
  (sSeq s_Calendar_contains_1
  (sSeq s_Calendar_contains_2
  (sSeq (sOwn 3 (eUn (orU dictD dictP) (bVar 1)))
  (sSeq (sDPutD 3 (eUn (conD "Calendar" "ZERO" (.str "day")) (bVar 0)) (eC (.int 0)))
  (sRet (eUn allD (bOf e_Calendar_contains_2)))))))
def d_Calendar_contains : List D → Res D := runF 7 2 s_Calendar_contains
abbrev nm_Calendar_contains : List Str := ["self", "value", "moment", "days", "one", "other", "number"]
theorem sc_Calendar_contains : FnScope nm_Calendar_contains ["self", "value"] (defScope (mth 19 12)) := ⟨rfl, rfl, rfl, by decide +kernel, rfl, by decide +kernel, by decide +kernel⟩
theorem ok_Calendar_contains (V : WD K mg) (fA : Addr) : BodyOk P w K mg base 1 nm_Calendar_contains "Calendar.__contains__" (defScope (mth 19 12)) fA (defBody (mth 19 12)) s_Calendar_contains := by
  intro cdv A outer s H E hr
  have nd := (sc_Calendar_contains).nd
  obtain ⟨t_cn_Calendar_ZERO, h_cn_Calendar_ZERO⟩ := cn_Calendar_ZERO V
  exact (dss_cons (ds_if (DW.dt (dw_or (dt_not (dt_val (de_isi1 (cs := []) rfl (f_isinstance V) PyProof.Rows.boot_isinstance rfl (f_dict V) PyProof.Rows.boot_dict (by decide) ⟨fun _ h => nomatch h⟩ (db_var (i := 1))))) (dw_or1 (DC.dt (dc_ne hr (DE.db (de_len  (f_len V) (db_var (i := 1)))) (DE.db (de_len  (f_len V) (DE.db (de_fld (na_Calendar_own_moments V) (db_var (i := 0))))))))))) (dss_one (ds_ret de_bl)) dss_nil)
  (dss_cons (ds_if (dt_not (dt_val (de_all rfl (f_all V) (DE.db (DN.de (dn_lc (own := [("moment", 2)]) rfl nd (di_seq (de_fld (na_Calendar_own_moments V) (db_var (i := 0)))) (by refine ⟨rfl, ?_, ?_, ?_, ?_⟩ <;> first | exact of_decide_eq_true (by kernel_rfl) | decide +kernel) (fun _ _ _ _ _ => (dg_name (i := 2) (vs := [2]) (by decide) nd)) (fun _ _ _ _ _ => dts_nil) (fun _ _ _ _ _ => (de_and (DC.de (dc_inK hr (db_var (i := 2)) (db_var (i := 1)))) (de_one (de_call (c_is_integer V) takes0 hr (by decide) rfl (g_is_integer V) (da_cons (de_atK hr (db_var (i := 1)) (db_var (i := 2))) da_nil))))))))))) (dss_one (ds_ret de_bl)) dss_nil)
  (dss_cons (ds_own (i := 3) nd (dn_dict1 rfl (f_dict V) (db_var (i := 1))))
  (dss_cons (ds_dput (i := 3) (Room.u1 hr) (de_con (c := "Calendar") (d := .str "day") (g_Calendar V) (cl_Calendar V) h_cn_Calendar_ZERO (fun _ => rfl) (db_var (i := 0))) de_int)
  (dss_one (ds_ret (de_all rfl (f_all V) (DE.db (DN.de (dn_lc (own := [("one", 4), ("other", 5), ("number", 6)]) rfl nd (di_seq (de_fld (na_Calendar_own_clauses V) (db_var (i := 0)))) (by refine ⟨rfl, ?_, ?_, ?_, ?_⟩ <;> first | exact of_decide_eq_true (by kernel_rfl) | decide +kernel) (fun _ _ _ _ _ => (dg_tup (n := 3) rfl (dgs_cons (dg_name (i := 4) (vs := [4, 5, 6]) (by decide) nd) (dgs_cons (dg_name (i := 5) (vs := [4, 5, 6]) (by decide) nd) (dgs_cons (dg_name (i := 6) (vs := [4, 5, 6]) (by decide) nd) dgs_nil))))) (fun _ _ _ _ _ => dts_nil) (fun _ _ _ _ _ => (DC.de (dc_le (DE.db (de_atK hr (db_var (i := 3)) (db_var (i := 4)))) (DE.db (de_add (DE.db (de_atK hr (db_var (i := 3)) (db_var (i := 5)))) (db_var (i := 6)))))))))))))))))
theorem c_Calendar_contains (V : WD K mg) : CalA P w K mg base 2 (He.ma K (He.ga K "Calendar") "__contains__") d_Calendar_contains := by
  obtain ⟨fd, F⟩ := V.d.def_ 16 (d := df_16) rfl
  exact cal_A F sc_Calendar_contains (ok_Calendar_contains V _) (fun _ _ _ _ _ _ us hl => match us, hl with | [_, _], _ => rfl)
/-! lall -/
def e_lall_1 : En → Res (D × En) :=
  (eLc (iRg2 (aCons (eUn negI (bOf (eC (.int 2)))) (aCons (eC (.int 3)) aNil))) (gNm 5) tYesD (eUn (orU dictD dictP) (bOf (eBin catL (bOf (eUn itemsL (bVar 4))) (bOf (eLst (aCons (eTup (aCons (eVar 2) (aCons (eVar 5) aNil))) aNil)))))) [5])
def s_lall_2_2_b : En → SR :=
  (sExtend 3 e_lall_1)
def s_lall_2_2 : En → SR :=
  (sFor (iSeq (eVar 1)) (gNm 4) s_lall_2_2_b)
def s_lall_2_b : En → SR :=
  (sSeq (sOwn 3 (eLst aNil))
  (sSeq s_lall_2_2
  (sSet 1 (eUn listD (bVar 3)))))
def s_lall_2 : En → SR :=
  (sFor (iSeq (eVar 0)) (gNm 2) s_lall_2_b)
def s_lall : En → SR :=
  (sSeq (sSet 1 (eLst (aCons eDict0 aNil)))
  (sSeq s_lall_2
  (sRet (eVar 1))))
def d_lall : List D → Res D := runF 6 1 s_lall
abbrev nm_lall : List Str := ["_law_labels", "_law_found", "_law_label", "_law_longer", "_law_near", "_law_day"]
theorem sc_lall : FnScope nm_lall ["_law_labels"] (defScope (top 26)) := ⟨rfl, rfl, rfl, by decide +kernel, rfl, by decide +kernel, by decide +kernel⟩
theorem ok_lall (V : WD K mg) (fA : Addr) : BodyOk P w K mg base 0 nm_lall "_law_all" (defScope (top 26)) fA (defBody (top 26)) s_lall := by
  intro cdv A outer s H E hr
  have nd := (sc_lall).nd
  exact (dss_cons (ds_set (i := 1) nd (DN.de (dn_lst (da_cons (DN.de dn_dict0) da_nil))))
  (dss_cons (ds_for own_def rfl (di_seq (de_var (i := 0))) (dg_name (i := 2) (vs := [2]) (by decide) nd) (dss_cons (ds_own (i := 3) nd (dn_lst da_nil))
  (dss_cons (ds_for own_def rfl (di_seq (de_var (i := 1))) (dg_name (i := 4) (vs := [4]) (by decide) nd) (dss_one (ds_extend (i := 3) (DN.de (dn_lc (own := [("_law_day", 5)]) rfl nd (di_range2 rfl (f_range V) (da_cons (de_neg (DE.db de_int)) (da_cons de_int da_nil))) (by refine ⟨rfl, ?_, ?_, ?_, ?_⟩ <;> first | exact of_decide_eq_true (by kernel_rfl) | decide +kernel) (fun _ _ _ _ _ => (dg_name (i := 5) (vs := [5]) (by decide) nd)) (fun _ _ _ _ _ => dts_nil) (fun _ _ _ _ _ => (DN.de (dn_dict1 rfl (f_dict V) (DE.db (DN.de (dn_cat (DE.db (DN.de (dn_items rfl (db_var (i := 4)) rfl (f_list V) PyProof.Rows.boot_list))) (DE.db (DN.de (dn_lst (da_cons (de_tup (da_cons (de_var (i := 2)) (da_cons (de_var (i := 5)) da_nil))) da_nil)))))))))))))))
  (dss_one (ds_set (i := 1) nd (DN.de (dn_list1  (f_list V) (db_var (i := 3)))))))))
  (dss_one (ds_ret (de_var (i := 1))))))
theorem c_lall (V : WD K mg) : CalA P w K mg base 1 (He.ga K "_law_all") d_lall := by
  obtain ⟨fd, F⟩ := V.d.def_ 17 (d := df_17) rfl
  exact cal_A F sc_lall (ok_lall V _) (fun _ _ _ _ _ _ us hl => match us, hl with | [_], _ => rfl)
/-! lkeeps -/
def e_lkeeps_1 : En → Res (D × En) :=
  (eLc (iSeq (eVar 1)) (gTp 3 (gsCons (gNm 3) (gsCons (gNm 4) (gsCons (gNm 5) gsNil)))) tYesD (eBin leI (bOf (eBin dgetD (bVar 2) (bVar 3))) (bOf (eBin addI (bOf (eBin dgetD (bVar 2) (bVar 4))) (bVar 5)))) [3, 4, 5])
def s_lkeeps : En → SR :=
  (sSeq (sSet 2 (eUn (orU dictD dictP) (bOf (eBin catL (bOf (eUn itemsL (bVar 0))) (bOf (eLst (aCons (eTup (aCons (eC (.str "day")) (aCons (eC (.int 0)) aNil))) aNil)))))))
  (sRet (eUn allD (bOf e_lkeeps_1))))
def d_lkeeps : List D → Res D := runF 6 2 s_lkeeps
abbrev nm_lkeeps : List Str := ["_law_near", "_law_clauses", "_law_days", "_law_one", "_law_other", "_law_number"]
theorem sc_lkeeps : FnScope nm_lkeeps ["_law_near", "_law_clauses"] (defScope (top 27)) := ⟨rfl, rfl, rfl, by decide +kernel, rfl, by decide +kernel, by decide +kernel⟩
theorem ok_lkeeps (V : WD K mg) (fA : Addr) : BodyOk P w K mg base 0 nm_lkeeps "_law_keeps" (defScope (top 27)) fA (defBody (top 27)) s_lkeeps := by
  intro cdv A outer s H E hr
  have nd := (sc_lkeeps).nd
  exact (dss_cons (ds_set (i := 2) nd (DN.de (dn_dict1 rfl (f_dict V) (DE.db (DN.de (dn_cat (DE.db (DN.de (dn_items rfl (db_var (i := 0)) rfl (f_list V) PyProof.Rows.boot_list))) (DE.db (DN.de (dn_lst (da_cons (de_tup (da_cons de_str (da_cons de_int da_nil))) da_nil))))))))))
  (dss_one (ds_ret (de_all rfl (f_all V) (DE.db (DN.de (dn_lc (own := [("_law_one", 3), ("_law_other", 4), ("_law_number", 5)]) rfl nd (di_seq (de_var (i := 1))) (by refine ⟨rfl, ?_, ?_, ?_, ?_⟩ <;> first | exact of_decide_eq_true (by kernel_rfl) | decide +kernel) (fun _ _ _ _ _ => (dg_tup (n := 3) rfl (dgs_cons (dg_name (i := 3) (vs := [3, 4, 5]) (by decide) nd) (dgs_cons (dg_name (i := 4) (vs := [3, 4, 5]) (by decide) nd) (dgs_cons (dg_name (i := 5) (vs := [3, 4, 5]) (by decide) nd) dgs_nil))))) (fun _ _ _ _ _ => dts_nil) (fun _ _ _ _ _ => (DC.de (dc_le (DE.db (de_atK hr (db_var (i := 2)) (db_var (i := 3)))) (DE.db (de_add (DE.db (de_atK hr (db_var (i := 2)) (db_var (i := 4)))) (db_var (i := 5))))))))))))))
theorem c_lkeeps (V : WD K mg) : CalA P w K mg base 1 (He.ga K "_law_keeps") d_lkeeps := by
  obtain ⟨fd, F⟩ := V.d.def_ 18 (d := df_18) rfl
  exact cal_A F sc_lkeeps (ok_lkeeps V _) (fun _ _ _ _ _ _ us hl => match us, hl with | [_, _], _ => rfl)
/-! lis_told -/
def s_lis_told_1 : En → SR :=
  (sIf (tOrD (tOfE (eBin neD (bOf (eMeth "Calendar" "moments" d_Calendar_moments (eVar 0) aNil)) (bOf (eUn sortedD (bOf (eBin ixG (bVar 1) (bOf (eC (.int 0))))))))) (tOfE (eBin neD (bOf (eMeth "Calendar" "clauses" d_Calendar_clauses (eVar 0) aNil)) (bOf (eBin ixG (bVar 1) (bOf (eC (.int 1)))))))) (sRet (eC (.bl false))) sNop)
def e_lis_told_1 : En → Res (D × En) :=
  (eLc (iSeq (eCall d_lall (aCons (eBin ixG (bVar 1) (bOf (eC (.int 0)))) aNil))) (gNm 2) tYesD (eBin eqD (bOf (eUn reprB (bOf (eOwnR "Calendar" toB d_Calendar_contains (eVar 2) (eVar 0))))) (bOf (eUn reprB (bOf (eCall d_lkeeps (aCons (eVar 2) (aCons (eBin ixG (bVar 1) (bOf (eC (.int 1)))) aNil))))))) [2])
def s_lis_told : En → SR :=
  (sSeq s_lis_told_1
  (sRet (eUn allD (bOf e_lis_told_1))))
def d_lis_told : List D → Res D := runF 3 2 s_lis_told
abbrev nm_lis_told : List Str := ["_law_chart", "_law_draft_here", "_law_near"]
theorem sc_lis_told : FnScope nm_lis_told ["_law_chart", "_law_draft_here"] (defScope (top 28)) := ⟨rfl, rfl, rfl, by decide +kernel, rfl, by decide +kernel, by decide +kernel⟩
theorem ok_lis_told (V : WD K mg) (fA : Addr) : BodyOk P w K mg base 2 nm_lis_told "_law_is_told" (defScope (top 28)) fA (defBody (top 28)) s_lis_told := by
  intro cdv A outer s H E hr
  have nd := (sc_lis_told).nd
  exact (dss_cons (ds_if (DW.dt (dw_or (DC.dt (dc_ne hr (DE.db (de_meth0 (c := "Calendar") (c_Calendar_moments V) tk_def hr (by decide) (g_Calendar V) (cl_Calendar V) (m_Calendar_moments V) (de_var (i := 0)))) (DE.db (DN.de (dn_sorted hr (f_sorted V) (DE.db (de_at (db_var (i := 1)) (DE.db de_int)))))))) (dw_or1 (DC.dt (dc_ne hr (DE.db (de_meth0 (c := "Calendar") (c_Calendar_clauses V) tk_def hr (by decide) (g_Calendar V) (cl_Calendar V) (m_Calendar_clauses V) (de_var (i := 0)))) (DE.db (de_at (db_var (i := 1)) (DE.db de_int)))))))) (dss_one (ds_ret de_bl)) dss_nil)
  (dss_one (ds_ret (de_all rfl (f_all V) (DE.db (DN.de (dn_lc (own := [("_law_near", 2)]) rfl nd (di_seq (de_call (c_lall V) tk_def hr (by decide) rfl (g_law_all V) (da_cons (de_at (db_var (i := 1)) (DE.db de_int)) da_nil))) (by refine ⟨rfl, ?_, ?_, ?_, ?_⟩ <;> first | exact of_decide_eq_true (by kernel_rfl) | decide +kernel) (fun _ _ _ _ _ => (dg_name (i := 2) (vs := [2]) (by decide) nd)) (fun _ _ _ _ _ => dts_nil) (fun _ _ _ _ _ => (DC.de (dc_eq hr (DE.db (de_reprB (f_repr V) (DE.db (DC.de (dc_inO (c := "Calendar") (c_Calendar_contains V) takes0 hr (by decide) (g_Calendar V) (m_Calendar_contains V) (de_var (i := 2)) (de_var (i := 0))))))) (DE.db (de_reprB (f_repr V) (DE.db (de_call (c_lkeeps V) takes0 hr (by decide) rfl (g_law_keeps V) (da_cons (de_var (i := 2)) (da_cons (de_at (db_var (i := 1)) (DE.db de_int)) da_nil))))))))))))))))
theorem c_lis_told (V : WD K mg) : CalA P w K mg base 3 (He.ga K "_law_is_told") d_lis_told := by
  obtain ⟨fd, F⟩ := V.d.def_ 19 (d := df_19) rfl
  exact cal_A F sc_lis_told (ok_lis_told V _) (fun _ _ _ _ _ _ us hl => match us, hl with | [_, _], _ => rfl)
/-! lmerged -/
def e_lmerged_1 : En → Res (D × En) :=
  (eLc (iSeq (eBin ixG (bVar 1) (bOf (eC (.int 0))))) (gNm 3) (tOfE (eBin ninLst (bVar 3) (bOf (eBin ixG (bVar 0) (bOf (eC (.int 0))))))) (eVar 3) [3])
def e_lmerged_2 : En → Res (D × En) :=
  (eLc (iSeq (eBin ixG (bVar 1) (bOf (eC (.int 1))))) (gNm 4) (tOfE (eBin ninLst (bVar 4) (bOf (eBin ixG (bVar 0) (bOf (eC (.int 1))))))) (eVar 4) [4])
def s_lmerged : En → SR :=
  (sSeq (sSet 2 (eBin catL (bOf (eBin ixG (bVar 0) (bOf (eC (.int 0))))) (bOf e_lmerged_1)))
  (sRet (eTup (aCons (eVar 2) (aCons (eBin catL (bOf (eBin ixG (bVar 0) (bOf (eC (.int 1))))) (bOf e_lmerged_2)) aNil)))))
def d_lmerged : List D → Res D := runF 5 2 s_lmerged
abbrev nm_lmerged : List Str := ["_law_one", "_law_other", "_law_labels", "_law_label", "_law_made"]
theorem sc_lmerged : FnScope nm_lmerged ["_law_one", "_law_other"] (defScope (top 25)) := ⟨rfl, rfl, rfl, by decide +kernel, rfl, by decide +kernel, by decide +kernel⟩
theorem ok_lmerged (V : WD K mg) (fA : Addr) : BodyOk P w K mg base 0 nm_lmerged "_law_merged" (defScope (top 25)) fA (defBody (top 25)) s_lmerged := by
  intro cdv A outer s H E hr
  have nd := (sc_lmerged).nd
  exact (dss_cons (ds_set (i := 2) nd (DN.de (dn_cat (DE.db (de_at (db_var (i := 0)) (DE.db de_int))) (DE.db (DN.de (dn_lc (own := [("_law_label", 3)]) rfl nd (di_seq (de_at (db_var (i := 1)) (DE.db de_int))) (by refine ⟨rfl, ?_, ?_, ?_, ?_⟩ <;> first | exact of_decide_eq_true (by kernel_rfl) | decide +kernel) (fun _ _ _ _ _ => (dg_name (i := 3) (vs := [3]) (by decide) nd)) (fun _ _ _ _ _ => (dts_one (DC.dt (dc_ninL hr (db_var (i := 3)) (DE.db (de_at (db_var (i := 0)) (DE.db de_int))))))) (fun _ _ _ _ _ => (de_var (i := 3)))))))))
  (dss_one (ds_ret (de_tup (da_cons (de_var (i := 2)) (da_cons (DN.de (dn_cat (DE.db (de_at (db_var (i := 0)) (DE.db de_int))) (DE.db (DN.de (dn_lc (own := [("_law_made", 4)]) rfl nd (di_seq (de_at (db_var (i := 1)) (DE.db de_int))) (by refine ⟨rfl, ?_, ?_, ?_, ?_⟩ <;> first | exact of_decide_eq_true (by kernel_rfl) | decide +kernel) (fun _ _ _ _ _ => (dg_name (i := 4) (vs := [4]) (by decide) nd)) (fun _ _ _ _ _ => (dts_one (DC.dt (dc_ninL hr (db_var (i := 4)) (DE.db (de_at (db_var (i := 0)) (DE.db de_int))))))) (fun _ _ _ _ _ => (de_var (i := 4)))))))) da_nil))))))
theorem c_lmerged (V : WD K mg) : CalA P w K mg base 1 (He.ga K "_law_merged") d_lmerged := by
  obtain ⟨fd, F⟩ := V.d.def_ 20 (d := df_20) rfl
  exact cal_A F sc_lmerged (ok_lmerged V _) (fun _ _ _ _ _ _ us hl => match us, hl with | [_, _], _ => rfl)
/-! ltwo_right -/
def s_ltwo_right_2 : En → SR :=
  (sIf (tNotD (tOfE (eCall d_lis_told (aCons (eVar 4) (aCons (eVar 5) aNil))))) (sRet (eC (.bl false))) sNop)
def e_ltwo_right_1 : En → Res (D × En) :=
  (eLc (iSeq (eBin ixG (bOf (eBin ixG (bVar 0) (bVar 9))) (bOf (eC (.int 0))))) (gNm 8) tYesD (eTup (aCons (eVar 8) (aCons (eBin dgetD (bVar 6) (bVar 8)) aNil))) [8])
def e_ltwo_right_2 : En → Res (D × En) :=
  (eLc (iSeq (eTup (aCons (eVar 2) (aCons (eVar 3) aNil)))) (gNm 9) tYesD (eUn (orU dictD dictP) (bOf e_ltwo_right_1)) [9])
def s_ltwo_right_3_2 : En → SR :=
  (sIf (tOfE (eBin neD (bOf (eUn reprB (bOf (eOwnR "Calendar" toB d_Calendar_contains (eVar 6) (eVar 4))))) (bOf (eUn reprB (bOf (eAnd (eOwnR "Calendar" toB d_Calendar_contains (eBin ixG (bVar 7) (bOf (eC (.int 0)))) (eBin ixG (bVar 1) (bVar 2))) (eOwnR "Calendar" toB d_Calendar_contains (eBin ixG (bVar 7) (bOf (eC (.int 1)))) (eBin ixG (bVar 1) (bVar 3))))))))) (sRet (eC (.bl false))) sNop)
def s_ltwo_right_3_b : En → SR :=
  (sSeq (sSet 7 e_ltwo_right_2)
  s_ltwo_right_3_2)
def s_ltwo_right_3 : En → SR :=
  (sFor (iSeq (eCall d_lall (aCons (eBin ixG (bVar 5) (bOf (eC (.int 0)))) aNil))) (gNm 6) s_ltwo_right_3_b)
def s_ltwo_right : En → SR :=
  (sSeq (sPar 4 5 (aCons (eOwnL "Calendar" some d_Calendar_or (eBin ixG (bVar 1) (bVar 2)) (eBin ixG (bVar 1) (bVar 3))) (aCons (eCall d_lmerged (aCons (eBin ixG (bVar 0) (bVar 2)) (aCons (eBin ixG (bVar 0) (bVar 3)) aNil))) aNil)))
  (sSeq s_ltwo_right_2
  (sSeq s_ltwo_right_3
  (sRet (eAnd (eCall d_lis_told (aCons (eBin ixG (bVar 1) (bVar 2)) (aCons (eBin ixG (bVar 0) (bVar 2)) aNil))) (eCall d_lis_told (aCons (eBin ixG (bVar 1) (bVar 3)) (aCons (eBin ixG (bVar 0) (bVar 3)) aNil))))))))
def d_ltwo_right : List D → Res D := runF 10 4 s_ltwo_right
abbrev nm_ltwo_right : List Str := ["_law_drafts", "_law_charts", "_law_k", "_law_j", "_law_both", "_law_due", "_law_near", "_law_parts", "_law_label", "_law_at"]
theorem sc_ltwo_right : FnScope nm_ltwo_right ["_law_drafts", "_law_charts", "_law_k", "_law_j"] (defScope (top 29)) := ⟨rfl, rfl, rfl, by decide +kernel, rfl, by decide +kernel, by decide +kernel⟩
theorem ok_ltwo_right (V : WD K mg) (fA : Addr) : BodyOk P w K mg base 7 nm_ltwo_right "_law_two_right" (defScope (top 29)) fA (defBody (top 29)) s_ltwo_right := by
  intro cdv A outer s H E hr
  have nd := (sc_ltwo_right).nd
  exact (dss_cons (ds_par (i := 4) (j := 5) rfl nd (da_cons (de_opO (c := "Calendar") (c_Calendar_or V) tk_def hr (by decide) (g_Calendar V) (sf_Calendar V) (m_Calendar_or V) (de_at (db_var (i := 1)) (db_var (i := 2))) (de_at (db_var (i := 1)) (db_var (i := 3)))) (da_cons (de_call (c_lmerged V) tk_def hr (by decide) rfl (g_law_merged V) (da_cons (de_at (db_var (i := 0)) (db_var (i := 2))) (da_cons (de_at (db_var (i := 0)) (db_var (i := 3))) da_nil))) da_nil)))
  (dss_cons (ds_if (dt_not (dt_val (de_call (c_lis_told V) tk_def hr (by decide) rfl (g_law_is_told V) (da_cons (de_var (i := 4)) (da_cons (de_var (i := 5)) da_nil))))) (dss_one (ds_ret de_bl)) dss_nil)
  (dss_cons (ds_for own_def rfl (di_seq (de_call (c_lall V) tk_def hr (by decide) rfl (g_law_all V) (da_cons (de_at (db_var (i := 5)) (DE.db de_int)) da_nil))) (dg_name (i := 6) (vs := [6]) (by decide) nd) (dss_cons (ds_setLc (i := 7) (own := [("_law_at", 9)]) rfl nd (di_seq (de_tup (da_cons (de_var (i := 2)) (da_cons (de_var (i := 3)) da_nil)))) (by refine ⟨rfl, ?_, ?_, ?_, ?_⟩ <;> first | exact of_decide_eq_true (by kernel_rfl) | decide +kernel) (fun _ _ _ _ _ => (dg_name (i := 9) (vs := [9]) (by decide) nd)) (fun _ _ _ _ _ => dts_nil) (fun _ _ _ _ _ => (DN.de (dn_dict1 rfl (f_dict V) (DE.db (DN.de (dn_lc (own := [("_law_label", 8)]) rfl nd (di_seq (de_at (DE.db (de_at (db_var (i := 0)) (db_var (i := 9)))) (DE.db de_int))) (by refine ⟨rfl, ?_, ?_, ?_, ?_⟩ <;> first | exact of_decide_eq_true (by kernel_rfl) | decide +kernel) (fun _ _ _ _ _ => (dg_name (i := 8) (vs := [8]) (by decide) nd)) (fun _ _ _ _ _ => dts_nil) (fun _ _ _ _ _ => (de_tup (da_cons (de_var (i := 8)) (da_cons (de_atK hr (db_var (i := 6)) (db_var (i := 8))) da_nil)))))))))) rfl)
  (dss_one (ds_if (DC.dt (dc_ne hr (DE.db (de_reprB (f_repr V) (DE.db (DC.de (dc_inO (c := "Calendar") (c_Calendar_contains V) tk_def hr (by decide) (g_Calendar V) (m_Calendar_contains V) (de_var (i := 6)) (de_var (i := 4))))))) (DE.db (de_reprB (f_repr V) (DE.db (de_and (DC.de (dc_inO (c := "Calendar") (c_Calendar_contains V) tk_def hr (by decide) (g_Calendar V) (m_Calendar_contains V) (de_at (db_var (i := 7)) (DE.db de_int)) (de_at (db_var (i := 1)) (db_var (i := 2))))) (de_one (DC.de (dc_inO (c := "Calendar") (c_Calendar_contains V) tk_def hr (by decide) (g_Calendar V) (m_Calendar_contains V) (de_at (db_var (i := 7)) (DE.db de_int)) (de_at (db_var (i := 1)) (db_var (i := 3)))))))))))) (dss_one (ds_ret de_bl)) dss_nil))))
  (dss_one (ds_ret (de_and (de_call (c_lis_told V) tk_def hr (by decide) rfl (g_law_is_told V) (da_cons (de_at (db_var (i := 1)) (db_var (i := 2))) (da_cons (de_at (db_var (i := 0)) (db_var (i := 2))) da_nil))) (de_one (de_call (c_lis_told V) tk_def hr (by decide) rfl (g_law_is_told V) (da_cons (de_at (db_var (i := 1)) (db_var (i := 3))) (da_cons (de_at (db_var (i := 0)) (db_var (i := 3))) da_nil))))))))))
theorem c_ltwo_right (V : WD K mg) : CalA P w K mg base 8 (He.ga K "_law_two_right") d_ltwo_right := by
  obtain ⟨fd, F⟩ := V.d.def_ 21 (d := df_21) rfl
  exact cal_A F sc_ltwo_right (ok_ltwo_right V _) (fun _ _ _ _ _ _ us hl => match us, hl with | [_, _, _, _], _ => rfl)
/-! lright -/
def e_lright_1 : En → Res (D × En) :=
  (eLc (iSeq (eVar 1)) (gNm 3) tYesD (eMake "Calendar" b_Calendar_init (aCons (eBin ixG (bVar 3) (bOf (eC (.int 0)))) (aCons (eBin ixG (bVar 3) (bOf (eC (.int 1)))) aNil))) [3])
def e_lright_2 : En → Res (D × En) :=
  (eLc (iRg1 (aCons (eC (.int 3)) aNil)) (gNm 5) tYesD (eCall d_ltwo_right (aCons (eVar 1) (aCons (eVar 2) (aCons (eVar 4) (aCons (eVar 5) aNil))))) [5])
def s_lright_3_1 : En → SR :=
  (sIf (tNotD (tOfE (eUn allD (bOf e_lright_2)))) (sRet (eC (.bl false))) sNop)
def s_lright_3_2 : En → SR :=
  (sIf (tOrD (tOfE (eOwnL "Calendar" toNB d_Calendar_eq (eOwnL "Calendar" some d_Calendar_or (eBin ixG (bVar 2) (bVar 4)) (eBin ixG (bVar 2) (bVar 4))) (eBin ixG (bVar 2) (bVar 4)))) (tOfE (eOwnL "Calendar" toNB d_Calendar_eq (eOwnL "Calendar" some d_Calendar_or (eBin ixG (bVar 2) (bVar 4)) (eMake "Calendar" b_Calendar_init_1 (aCons (eLst aNil) aNil))) (eBin ixG (bVar 2) (bVar 4))))) (sRet (eC (.bl false))) sNop)
def s_lright_3_3 : En → SR :=
  (sIf (tOfE (eOwnL "Calendar" toNB d_Calendar_eq (eOwnL "Calendar" some d_Calendar_or (eMake "Calendar" b_Calendar_init_1 (aCons (eLst aNil) aNil)) (eBin ixG (bVar 2) (bVar 4))) (eBin ixG (bVar 2) (bVar 4)))) (sRet (eC (.bl false))) sNop)
def s_lright_3_b : En → SR :=
  (sSeq s_lright_3_1
  (sSeq s_lright_3_2
  s_lright_3_3))
def s_lright_3 : En → SR :=
  (sFor (iRg1 (aCons (eC (.int 3)) aNil)) (gNm 4) s_lright_3_b)
def s_lright_5 : En → SR :=
  (sPar 7 8 (aCons (eOwnL "Calendar" some d_Calendar_or (eOwnL "Calendar" some d_Calendar_or (eBin ixG (bVar 2) (bOf (eC (.int 0)))) (eBin ixG (bVar 2) (bOf (eC (.int 1))))) (eBin ixG (bVar 2) (bOf (eC (.int 2))))) (aCons (eOwnL "Calendar" some d_Calendar_or (eBin ixG (bVar 2) (bOf (eC (.int 0)))) (eOwnL "Calendar" some d_Calendar_or (eBin ixG (bVar 2) (bOf (eC (.int 1)))) (eBin ixG (bVar 2) (bOf (eC (.int 2)))))) aNil)))
def s_lright_6 : En → SR :=
  (sIf (tOrD (tNotD (tOfE (eCall d_lis_told (aCons (eVar 7) (aCons (eVar 6) aNil))))) (tOrD (tOfE (eOwnL "Calendar" toNB d_Calendar_eq (eVar 7) (eVar 8))) (tOfE (eBin neD (bOf (eMeth "Calendar" "clauses" d_Calendar_clauses (eVar 7) aNil)) (bOf (eMeth "Calendar" "clauses" d_Calendar_clauses (eVar 8) aNil)))))) (sRet (eC (.bl false))) sNop)
def s_lright_7 : En → SR :=
  (sRet (eAnd (eCall d_lis_told (aCons (eBin ixG (bVar 2) (bOf (eC (.int 0)))) (aCons (eBin ixG (bVar 1) (bOf (eC (.int 0)))) aNil))) (eOwnL "Calendar" some d_Calendar_eq (eOwnL "Calendar" some d_Calendar_or (eBin ixG (bVar 2) (bOf (eC (.int 0)))) (eBin ixG (bVar 2) (bOf (eC (.int 1))))) (eOwnL "Calendar" some d_Calendar_or (eBin ixG (bVar 2) (bOf (eC (.int 1)))) (eBin ixG (bVar 2) (bOf (eC (.int 0))))))))
def s_lright : En → SR :=
  (sSeq (sSet 1 (eLst (aCons (eCallB b_ldraft 0 aNil) (aCons (eCallB b_ldraft 0 aNil) (aCons (eCallB b_ldraft 0 aNil) aNil)))))
  (sSeq (sSet 2 e_lright_1)
  (sSeq s_lright_3
  (sSeq (sSet 6 (eCall d_lmerged (aCons (eCall d_lmerged (aCons (eBin ixG (bVar 1) (bOf (eC (.int 0)))) (aCons (eBin ixG (bVar 1) (bOf (eC (.int 1)))) aNil))) (aCons (eBin ixG (bVar 1) (bOf (eC (.int 2)))) aNil))))
  (sSeq s_lright_5
  (sSeq s_lright_6
  s_lright_7))))))
def b_lright : D → List D → Res (D × D) := runB 9 1 s_lright
abbrev nm_lright : List Str := ["_law_pot_here", "_law_drafts", "_law_charts", "_law_draft_here", "_law_k", "_law_j", "_law_whole", "_law_spare", "_law_behind"]
theorem sc_lright : FnScope nm_lright ["_law_pot_here"] (defScope (top 30)) := ⟨rfl, rfl, rfl, by decide +kernel, rfl, by decide +kernel, by decide +kernel⟩
theorem ok_lright (V : WD K mg) (fA : Addr) : BodyOk P w K mg base 8 nm_lright "_law_right" (defScope (top 30)) fA (defBody (top 30)) s_lright := by
  intro cdv A outer s H E hr
  have nd := (sc_lright).nd
  exact (dss_cons (ds_set (i := 1) nd (DN.de (dn_lst (da_cons (de_callB (i := 0) (c_ldraft V) tk_def hr (by decide) rfl (g_law_draft V) da_nil) (da_cons (de_callB (i := 0) (c_ldraft V) tk_def hr (by decide) rfl (g_law_draft V) da_nil) (da_cons (de_callB (i := 0) (c_ldraft V) tk_def hr (by decide) rfl (g_law_draft V) da_nil) da_nil))))))
  (dss_cons (ds_set (i := 2) nd (DN.de (dn_lc (own := [("_law_draft_here", 3)]) rfl nd (di_seq (de_var (i := 1))) (by refine ⟨rfl, ?_, ?_, ?_, ?_⟩ <;> first | exact of_decide_eq_true (by kernel_rfl) | decide +kernel) (fun _ _ _ _ _ => (dg_name (i := 3) (vs := [3]) (by decide) nd)) (fun _ _ _ _ _ => dts_nil) (fun _ _ _ _ _ => (DN.de (dn_make (c_Calendar_init V) takes0 hr (by decide) rfl (g_Calendar V) (mk_Calendar V) (da_cons (de_at (db_var (i := 3)) (DE.db de_int)) (da_cons (de_at (db_var (i := 3)) (DE.db de_int)) da_nil))))))))
  (dss_cons (ds_for own_def rfl (di_range1 rfl (f_range V) (da_cons de_int da_nil)) (dg_name (i := 4) (vs := [4]) (by decide) nd) (dss_cons (ds_if (dt_not (dt_val (de_all rfl (f_all V) (DE.db (DN.de (dn_lc (own := [("_law_j", 5)]) rfl nd (di_range1 rfl (f_range V) (da_cons de_int da_nil)) (by refine ⟨rfl, ?_, ?_, ?_, ?_⟩ <;> first | exact of_decide_eq_true (by kernel_rfl) | decide +kernel) (fun _ _ _ _ _ => (dg_name (i := 5) (vs := [5]) (by decide) nd)) (fun _ _ _ _ _ => dts_nil) (fun _ _ _ _ _ => (de_call (c_ltwo_right V) takes0 hr (by decide) rfl (g_law_two_right V) (da_cons (de_var (i := 1)) (da_cons (de_var (i := 2)) (da_cons (de_var (i := 4)) (da_cons (de_var (i := 5)) da_nil)))))))))))) (dss_one (ds_ret de_bl)) dss_nil)
  (dss_cons (ds_if (DW.dt (dw_or (DC.dt (dc_neO (c := "Calendar") (c_Calendar_eq V) tk_def hr (by decide) (g_Calendar V) (m_Calendar_eq V) (nq_Calendar V) (in_Calendar V).hm (de_opO (c := "Calendar") (c_Calendar_or V) tk_def hr (by decide) (g_Calendar V) (sf_Calendar V) (m_Calendar_or V) (de_at (db_var (i := 2)) (db_var (i := 4))) (de_at (db_var (i := 2)) (db_var (i := 4)))) (de_at (db_var (i := 2)) (db_var (i := 4))))) (dw_or1 (DC.dt (dc_neO (c := "Calendar") (c_Calendar_eq V) tk_def hr (by decide) (g_Calendar V) (m_Calendar_eq V) (nq_Calendar V) (in_Calendar V).hm (de_opO (c := "Calendar") (c_Calendar_or V) tk_def hr (by decide) (g_Calendar V) (sf_Calendar V) (m_Calendar_or V) (de_at (db_var (i := 2)) (db_var (i := 4))) (DN.de (dn_make (c_Calendar_init_1 V) tk_def hr (by decide) rfl (g_Calendar V) (mk_Calendar V) (da_cons (DN.de (dn_lst da_nil)) da_nil)))) (de_at (db_var (i := 2)) (db_var (i := 4)))))))) (dss_one (ds_ret de_bl)) dss_nil)
  (dss_one (ds_if (DC.dt (dc_neO (c := "Calendar") (c_Calendar_eq V) tk_def hr (by decide) (g_Calendar V) (m_Calendar_eq V) (nq_Calendar V) (in_Calendar V).hm (de_opO (c := "Calendar") (c_Calendar_or V) tk_def hr (by decide) (g_Calendar V) (sf_Calendar V) (m_Calendar_or V) (DN.de (dn_make (c_Calendar_init_1 V) tk_def hr (by decide) rfl (g_Calendar V) (mk_Calendar V) (da_cons (DN.de (dn_lst da_nil)) da_nil))) (de_at (db_var (i := 2)) (db_var (i := 4)))) (de_at (db_var (i := 2)) (db_var (i := 4))))) (dss_one (ds_ret de_bl)) dss_nil)))))
  (dss_cons (ds_set (i := 6) nd (de_call (c_lmerged V) tk_def hr (by decide) rfl (g_law_merged V) (da_cons (de_call (c_lmerged V) tk_def hr (by decide) rfl (g_law_merged V) (da_cons (de_at (db_var (i := 1)) (DE.db de_int)) (da_cons (de_at (db_var (i := 1)) (DE.db de_int)) da_nil))) (da_cons (de_at (db_var (i := 1)) (DE.db de_int)) da_nil))))
  (dss_cons (ds_par (i := 7) (j := 8) rfl nd (da_cons (de_opO (c := "Calendar") (c_Calendar_or V) tk_def hr (by decide) (g_Calendar V) (sf_Calendar V) (m_Calendar_or V) (de_opO (c := "Calendar") (c_Calendar_or V) tk_def hr (by decide) (g_Calendar V) (sf_Calendar V) (m_Calendar_or V) (de_at (db_var (i := 2)) (DE.db de_int)) (de_at (db_var (i := 2)) (DE.db de_int))) (de_at (db_var (i := 2)) (DE.db de_int))) (da_cons (de_opO (c := "Calendar") (c_Calendar_or V) tk_def hr (by decide) (g_Calendar V) (sf_Calendar V) (m_Calendar_or V) (de_at (db_var (i := 2)) (DE.db de_int)) (de_opO (c := "Calendar") (c_Calendar_or V) tk_def hr (by decide) (g_Calendar V) (sf_Calendar V) (m_Calendar_or V) (de_at (db_var (i := 2)) (DE.db de_int)) (de_at (db_var (i := 2)) (DE.db de_int)))) da_nil)))
  (dss_cons (ds_if (DW.dt (dw_or (dt_not (dt_val (de_call (c_lis_told V) tk_def hr (by decide) rfl (g_law_is_told V) (da_cons (de_var (i := 7)) (da_cons (de_var (i := 6)) da_nil))))) (dw_or (DC.dt (dc_neO (c := "Calendar") (c_Calendar_eq V) tk_def hr (by decide) (g_Calendar V) (m_Calendar_eq V) (nq_Calendar V) (in_Calendar V).hm (de_var (i := 7)) (de_var (i := 8)))) (dw_or1 (DC.dt (dc_ne hr (DE.db (de_meth0 (c := "Calendar") (c_Calendar_clauses V) tk_def hr (by decide) (g_Calendar V) (cl_Calendar V) (m_Calendar_clauses V) (de_var (i := 7)))) (DE.db (de_meth0 (c := "Calendar") (c_Calendar_clauses V) tk_def hr (by decide) (g_Calendar V) (cl_Calendar V) (m_Calendar_clauses V) (de_var (i := 8)))))))))) (dss_one (ds_ret de_bl)) dss_nil)
  (dss_one (ds_ret (de_and (de_call (c_lis_told V) tk_def hr (by decide) rfl (g_law_is_told V) (da_cons (de_at (db_var (i := 2)) (DE.db de_int)) (da_cons (de_at (db_var (i := 1)) (DE.db de_int)) da_nil))) (de_one (DC.de (dc_eqO (c := "Calendar") (c_Calendar_eq V) tk_def hr (by decide) (g_Calendar V) (m_Calendar_eq V) (de_opO (c := "Calendar") (c_Calendar_or V) tk_def hr (by decide) (g_Calendar V) (sf_Calendar V) (m_Calendar_or V) (de_at (db_var (i := 2)) (DE.db de_int)) (de_at (db_var (i := 2)) (DE.db de_int))) (de_opO (c := "Calendar") (c_Calendar_or V) tk_def hr (by decide) (g_Calendar V) (sf_Calendar V) (m_Calendar_or V) (de_at (db_var (i := 2)) (DE.db de_int)) (de_at (db_var (i := 2)) (DE.db de_int)))))))))))))))
theorem c_lright (V : WD K mg) : CalB P w K mg base 9 (He.ga K "_law_right") b_lright := by
  obtain ⟨fd, F⟩ := V.d.def_ 22 (d := df_22) rfl
  exact cal_B F sc_lright (ok_lright V _) (fun _ _ _ _ _ _ us hl => match us, hl with | [_], _ => rfl)
/-! law -/
def e_law_1 : En → Res (D × En) :=
  (eLc (iRg1 (aCons (eBin max2D (bOf (eC (.int 1))) (bOf (eBin min2D (bOf (eUn (orU lenD lenK) (bVar 0))) (bOf (eC (.int 4)))))) aNil)) (gNm 1) tYesD (eCallBN b_lright (eCall n_lpot (aCons (eVar 0) (aCons (eVar 1) aNil)))) [1])
def s_law : En → SR :=
  (sRet (eUn allD (bOf e_law_1)))
def d_law : List D → Res D := runF 2 1 s_law
abbrev nm_law : List Str := ["_law_script", "_law_k"]
theorem sc_law : FnScope nm_law ["_law_script"] (defScope (top 31)) := ⟨rfl, rfl, rfl, by decide +kernel, rfl, by decide +kernel, by decide +kernel⟩
theorem ok_law (V : WD K mg) (fA : Addr) : BodyOk P w K mg base 9 nm_law "law" (defScope (top 31)) fA (defBody (top 31)) s_law := by
  intro cdv A outer s H E hr
  have nd := (sc_law).nd
  exact (dss_one (ds_ret (de_all rfl (f_all V) (DE.db (DN.de (dn_lc (own := [("_law_k", 1)]) rfl nd (di_range1 rfl (f_range V) (da_cons (de_max2 rfl (f_max V) (DE.db de_int) (DE.db (de_min2 rfl (f_min V) (DE.db (de_len  (f_len V) (db_var (i := 0)))) (DE.db de_int)))) da_nil)) (by refine ⟨rfl, ?_, ?_, ?_, ?_⟩ <;> first | exact of_decide_eq_true (by kernel_rfl) | decide +kernel) (fun _ _ _ _ _ => (dg_name (i := 1) (vs := [1]) (by decide) nd)) (fun _ _ _ _ _ => dts_nil) (fun _ _ _ _ _ => (de_callBN (c_lright V) takes0 hr (by decide) rfl (g_law_right V) (dn_callN (c_lpot V) takes0 hr (by decide) rfl (g_law_pot V) (da_cons (de_var (i := 0)) (da_cons (de_var (i := 1)) da_nil)))))))))))
theorem c_law (V : WD K mg) : CalA P w K mg base 10 (He.ga K "law") d_law := by
  obtain ⟨fd, F⟩ := V.d.def_ 23 (d := df_23) rfl
  exact cal_A F sc_law (ok_law V _) (fun _ _ _ _ _ _ us hl => match us, hl with | [_], _ => rfl)
end
end K10

set_option Elab.async false
set_option linter.all false
set_option maxRecDepth 100000
set_option maxHeartbeats 4000000
namespace K10
open PySem L2 Dl
structure Nm (x : Str) : Prop where
  nm : d_is_name [.str x] = .ok (.bl true)
  mo : d_is_moment [.str x] = .ok (.bl true)
  ok : PyData.strOk x = true
  nd : x ≠ "day"
theorem day_mo : d_is_moment [.str "day"] = .ok (.bl true) := by kernel_rfl
theorem day_ok : PyData.strOk "day" = true := by decide +kernel
def Rst (rest : List (Str × D)) : Prop := rest = [] ∨ ∃ c : D, rest = [(("own_clauses" : Str), c)]
theorem in_ms {ms : List Str} {x : Str} (hx : PyData.strOk x = true) (hm : ∀ y ∈ ms, PyData.strOk y = true) (h : x ∈ ms) : inLst (.str x) (eMs ms) = some (.bl true) ∧ ninLst (.str x) (eMs ms) = some (.bl false) :=
  inL_yes (fine_str hx).ok (fine_ms hm).ok rfl strict_ms (str_mem.mpr h)
theorem nin_ms {ms : List Str} {x : Str} (hx : PyData.strOk x = true) (hm : ∀ y ∈ ms, PyData.strOk y = true) (h : x ∉ ms) : inLst (.str x) (eMs ms) = some (.bl false) ∧ ninLst (.str x) (eMs ms) = some (.bl true) :=
  inL_no (fine_str hx).ok (fine_ms hm).ok rfl strict_ms fun z => h (str_mem.mp z)
theorem in_cs {cs : List Cl} {c : Cl} (hx : okC c) (hm : ∀ y ∈ cs, okC y) (h : c ∈ cs) : inLst (eCl c) (eCs cs) = some (.bl true) ∧ ninLst (eCl c) (eCs cs) = some (.bl false) :=
  inL_yes (fine_cl hx).ok (fine_cs hm).ok rfl strict_cs (eCl_mem.mpr h)
theorem nin_cs {cs : List Cl} {c : Cl} (hx : okC c) (hm : ∀ y ∈ cs, okC y) (h : c ∉ cs) : inLst (eCl c) (eCs cs) = some (.bl false) ∧ ninLst (eCl c) (eCs cs) = some (.bl true) :=
  inL_no (fine_cl hx).ok (fine_cs hm).ok rfl strict_cs fun z => h (eCl_mem.mp z)
theorem has_momentB {ms : List Str} {rest : List (Str × D)} {x : Str} (hr : Rst rest) (hx : PyData.strOk x = true) (hm : ∀ y ∈ ms, PyData.strOk y = true) (h : x = "day" ∨ x ∈ ms) :
    b_Calendar_has_moment (.ins "Calendar" (("own_moments", eMs ms) :: rest)) [.str x] = .ok (.bl true, .ins "Calendar" (("own_moments", eMs ms) :: rest)) := by
  unfold b_Calendar_has_moment runB s_Calendar_has_moment
  by_cases q : x = "day"
  · rcases hr with rfl | ⟨c, rfl⟩ <;> simp [startB, q]
  · have e := (in_ms hx hm (h.resolve_left q)).1
    rcases hr with rfl | ⟨c, rfl⟩ <;> simp [startB, q, e]
/-- a clause over ms -/
structure COk (ms : List Str) (c : Cl) : Prop where
  a : c.1 = "day" ∨ c.1 ∈ ms
  b : c.2.1 = "day" ∨ c.2.1 ∈ ms
  ne : c.1 ≠ c.2.1
theorem COk.okc {ms : List Str} {c : Cl} (hm : ∀ y ∈ ms, Nm y) (h : COk ms c) : okC c :=
  ⟨h.a.elim (fun e => by rw [e]; exact day_ok) fun e => (hm _ e).ok, h.b.elim (fun e => by rw [e]; exact day_ok) fun e => (hm _ e).ok⟩
theorem mo_of {ms : List Str} {x : Str} (hm : ∀ y ∈ ms, Nm y) (h : x = "day" ∨ x ∈ ms) : d_is_moment [.str x] = .ok (.bl true) := h.elim (fun e => by rw [e]; exact day_mo) fun e => (hm _ e).mo
theorem is_clause_ok {ms : List Str} {c : Cl} (hm : ∀ y ∈ ms, Nm y) (h : COk ms c) : d_is_clause [eCl c] = .ok (.bl true) := by
  unfold d_is_clause runF s_is_clause s_is_clause_1
  have e3 : d_is_integer [.int c.2.2] = .ok (.bl true) := rfl
  simp [startE, eCl, e3, mo_of hm h.a, mo_of hm h.b, h.ne]
theorem own_formB {ms : List Str} {rest : List (Str × D)} {c : Cl} (hr : Rst rest) (hm : ∀ y ∈ ms, Nm y) (h : COk ms c) :
    b_Calendar_is_own_form (.ins "Calendar" (("own_moments", eMs ms) :: rest)) [eCl c] = .ok (.bl true, .ins "Calendar" (("own_moments", eMs ms) :: rest)) := by
  have e1 := is_clause_ok hm h
  have e2 := has_momentB hr (h.okc hm).1 (fun y hy => (hm y hy).ok) h.a
  have e3 := has_momentB hr (h.okc hm).2 (fun y hy => (hm y hy).ok) h.b
  unfold b_Calendar_is_own_form runB s_Calendar_is_own_form s_Calendar_is_own_form_1
  have hr' := hr
  rcases hr' with rfl | ⟨x, rfl⟩ <;> simp [startB, e1, eCl] at e2 e3 ⊢ <;> simp [eCl] at e1 <;> simp [e1, e2, e3]
theorem is_list_L {ds : List D} : d_is_list [.lst ds] = .ok (.bl true) := rfl
theorem is_list_T {ds : List D} : d_is_list [.tup ds] = .ok (.bl true) := rfl
/-- the first loop -/
theorem init_2 {self cs : D} {ms : List Str} (hm : ∀ y ∈ ms, Nm y) (nd : ms.Nodup) {x3 x4 x5 : Option Sl} :
    ∃ y3 y4, s_Calendar_init_2 [some (.bo self), some (.fz (eMs ms)), some (.fz cs), x3, x4, x5] = .nx [some (.bo self), some (.fz (eMs ms)), some (.fz cs), y3, y4, x5] := by
  have step : ∀ d ds r, (∃ pre suf, ms = pre ++ suf ∧ d :: ds = ((suf.map D.str).zipIdx pre.length).map (fun q => D.tup [.int q.2, q.1]) ∧ ∃ y3 y4, r = [some (Sl.bo self), some (.fz (eMs ms)), some (.fz cs), y3, y4, x5]) →
      ∃ r1 r2, (gTp 2 (gsCons (gNm 3) (gsCons (gNm 4) gsNil))) d r = .ok r1 ∧ (s_Calendar_init_2_1 r1 = .nx r2 ∨ s_Calendar_init_2_1 r1 = .ct r2) ∧ ∃ pre suf, ms = pre ++ suf ∧ ds = ((suf.map D.str).zipIdx pre.length).map (fun q => D.tup [.int q.2, q.1]) ∧ ∃ y3 y4, r2 = [some (Sl.bo self), some (.fz (eMs ms)), some (.fz cs), y3, y4, x5] := by
    rintro d ds r ⟨pre, suf, hms, hd, y3, y4, rfl⟩
    cases suf with
    | nil => simp at hd
    | cons x suf =>
      rw [List.map_cons, enum_cons] at hd
      obtain ⟨rfl, rfl⟩ := List.cons.inj hd
      have hx : Nm x := hm x (by rw [hms]; simp)
      have hnp : x ∉ pre := by
        rw [hms, List.nodup_append] at nd
        exact fun z => nd.2.2 x z x (by simp) rfl
      have cut : cutD (ms.map D.str) none (some (pre.length : Int)) = pre.map D.str := by
        rw [cut_pre (by rw [List.length_map, hms]; simp), ← List.map_take, hms]
        simp
      have nin := (nin_ms (ms := pre) hx.ok (fun y hy => (hm y (by rw [hms]; simp [hy])).ok) hnp).1
      refine ⟨_, [some (.bo self), some (.fz (eMs ms)), some (.fz cs), some (.fz (.int pre.length)), some (.fz (.str x)), x5], by simp; rfl, .inl ?_, pre ++ [x], suf, by simp [hms], by simp, _, _, rfl⟩
      unfold s_Calendar_init_2_1
      unfold eMs at nin
      simp [hx.nm, eMs, cut, nin]
  obtain ⟨r', e, pre, suf, _, _, y3, y4, rfl⟩ := for_ind (I := fun l r => ∃ pre suf, ms = pre ++ suf ∧ l = ((suf.map D.str).zipIdx pre.length).map (fun q => D.tup [.int q.2, q.1]) ∧ ∃ y3 y4, r = [some (Sl.bo self), some (.fz (eMs ms)), some (.fz cs), y3, y4, x5])
    (ds := ((ms.map D.str).zipIdx 0).map fun q => D.tup [.int q.2, q.1]) (r := [some (.bo self), some (.fz (eMs ms)), some (.fz cs), x3, x4, x5]) ⟨[], ms, rfl, rfl, x3, x4, rfl⟩ step
  refine ⟨y3, y4, ?_⟩
  unfold s_Calendar_init_2
  simp [eMs, enumD] at e ⊢
  exact e
theorem rst0 : Rst [] := .inl rfl
/-- the second loop -/
theorem init_5 {ms ms' : List Str} {cs : List Cl} (hm : ∀ y ∈ ms, Nm y) (hc : ∀ c ∈ cs, COk ms c) (nd : cs.Nodup) {x1 x3 x4 x5 : Option Sl} :
    ∃ y3 y5, s_Calendar_init_5 [some (.bo (.ins "Calendar" [("own_moments", eMs ms)])), x1, some (.fz (eCs cs)), x3, x4, x5] = .nx [some (.bo (.ins "Calendar" [("own_moments", eMs ms)])), x1, some (.fz (eCs cs)), y3, x4, y5] := by
  have step : ∀ d ds r, (∃ pre suf, cs = pre ++ suf ∧ d :: ds = ((suf.map eCl).zipIdx pre.length).map (fun q => D.tup [.int q.2, q.1]) ∧ ∃ y3 y5, r = [some (Sl.bo (.ins "Calendar" [("own_moments", eMs ms)])), x1, some (.fz (eCs cs)), y3, x4, y5]) →
      ∃ r1 r2, (gTp 2 (gsCons (gNm 3) (gsCons (gNm 5) gsNil))) d r = .ok r1 ∧ (s_Calendar_init_5_1 r1 = .nx r2 ∨ s_Calendar_init_5_1 r1 = .ct r2) ∧ ∃ pre suf, cs = pre ++ suf ∧ ds = ((suf.map eCl).zipIdx pre.length).map (fun q => D.tup [.int q.2, q.1]) ∧ ∃ y3 y5, r2 = [some (Sl.bo (.ins "Calendar" [("own_moments", eMs ms)])), x1, some (.fz (eCs cs)), y3, x4, y5] := by
    rintro d ds r ⟨pre, suf, hms, hd, y3, y4, rfl⟩
    cases suf with
    | nil => simp at hd
    | cons x suf =>
      rw [List.map_cons, enum_cons] at hd
      obtain ⟨rfl, rfl⟩ := List.cons.inj hd
      have hx : COk ms x := hc x (by rw [hms]; simp)
      have hnp : x ∉ pre := by
        rw [hms, List.nodup_append] at nd
        exact fun z => nd.2.2 x z x (by simp) rfl
      have cut : cutD (cs.map eCl) none (some (pre.length : Int)) = pre.map eCl := by
        rw [cut_pre (by rw [List.length_map, hms]; simp), ← List.map_take, hms]
        simp
      have nin := (nin_cs (cs := pre) (hx.okc hm) (fun y hy => (hc y (by rw [hms]; simp [hy])).okc hm) hnp).1
      have own := own_formB rst0 hm hx
      refine ⟨_, [some (.bo (.ins "Calendar" [("own_moments", eMs ms)])), x1, some (.fz (eCs cs)), some (.fz (.int pre.length)), x4, some (.fz (eCl x))], by simp; rfl, .inl ?_, pre ++ [x], suf, by simp [hms], by simp, _, _, rfl⟩
      unfold s_Calendar_init_5_1
      unfold eCs at nin
      simp [own, eCs, cut, nin]
  obtain ⟨r', e, pre, suf, _, _, y3, y4, rfl⟩ := for_ind (I := fun l r => ∃ pre suf, cs = pre ++ suf ∧ l = ((suf.map eCl).zipIdx pre.length).map (fun q => D.tup [.int q.2, q.1]) ∧ ∃ y3 y5, r = [some (Sl.bo (.ins "Calendar" [("own_moments", eMs ms)])), x1, some (.fz (eCs cs)), y3, x4, y5])
    (ds := ((cs.map eCl).zipIdx 0).map fun q => D.tup [.int q.2, q.1]) (r := [some (.bo (.ins "Calendar" [("own_moments", eMs ms)])), x1, some (.fz (eCs cs)), x3, x4, x5]) ⟨[], cs, rfl, rfl, x3, x5, rfl⟩ step
  refine ⟨y3, y4, ?_⟩
  unfold s_Calendar_init_5
  simp [eCs, enumD] at e ⊢
  exact e
theorem COk.mono {ms ns : List Str} {c : Cl} (h : COk ms c) (k : ∀ x ∈ ms, x ∈ ns) : COk ns c := ⟨h.a.imp id (k _), h.b.imp id (k _), h.ne⟩
/-- Calendar(moments, clauses) -/
theorem init_ok {ms : List Str} {cs : List Cl} (hm : ∀ y ∈ ms, Nm y) (nd : ms.Nodup) (hc : ∀ c ∈ cs, COk ms c) (nc : cs.Nodup) (lm : ms.length ≤ 8) (lc : cs.length ≤ 40) :
    b_Calendar_init (.ins "Calendar" []) [eMs ms, eCs cs] = .ok (.non, eCal (sortS ms) cs) := by
  have hp := sortS_perm ms
  have hm' : ∀ y ∈ sortS ms, Nm y := fun y hy => hm y (hp.mem_iff.mp hy)
  have hc' : ∀ c ∈ cs, COk (sortS ms) c := fun c h => (hc c h).mono fun x hx => hp.mem_iff.mpr hx
  obtain ⟨y3, y4, e2⟩ := init_2 (self := .ins "Calendar" []) (cs := eCs cs) hm nd (x3 := none) (x4 := none) (x5 := none)
  obtain ⟨z3, z5, e5⟩ := init_5 (ms' := []) hm' hc' nc (x1 := some (.fz (eMs ms))) (x3 := y3) (x4 := y4) (x5 := none)
  have es := sortedD_ms (fun x hx => (hm x hx).ok) (by omega : ms.length ≤ 100000)
  have l1 : (sortS ms).length = ms.length := hp.length_eq
  have il1 : d_is_list [eMs ms] = .ok (.bl true) := rfl
  have il2 : d_is_list [eCs cs] = .ok (.bl true) := rfl
  unfold b_Calendar_init runB s_Calendar_init
  simp [startB, s_Calendar_init_1, s_Calendar_init_4, s_Calendar_init_7, s_Calendar_init_8, il1, il2, e2, es, e5]
  unfold eCs eMs at *
  simp [l1, eCal, eMs, eCs]
  have q1 : ¬ (8 : Int) < ms.length := by omega
  have q2 : ¬ (40 : Int) < cs.length := by omega
  simp [q1, q2]
theorem init_ok1 : b_Calendar_init_1 (.ins "Calendar" []) [eMs []] = .ok (.non, eCal [] []) := by
  have es := sortedD_ms (ms := []) (fun x hx => nomatch hx) (by simp)
  have e0 : sortS [] = [] := by simp [sortS]
  rw [e0] at es
  unfold b_Calendar_init_1 b_Calendar_init runB s_Calendar_init
  simp [startB, s_Calendar_init_1, s_Calendar_init_2, s_Calendar_init_4, s_Calendar_init_5, s_Calendar_init_7, s_Calendar_init_8, is_list_L, is_list_T, eMs, enumD, forD] at es ⊢
  simp [es, eCal, eMs, eCs, is_list_T, enumD, forD]
end K10

set_option Elab.async false
set_option linter.all false
set_option maxRecDepth 100000
set_option maxHeartbeats 4000000
namespace K10
open PySem L2 Dl
/-- a calendar that is there -/
structure VC (ms : List Str) (cs : List Cl) : Prop where
  nm : ∀ y ∈ ms, Nm y
  nd : ms.Nodup
  ok : ∀ c ∈ cs, COk ms c
  nc : cs.Nodup
theorem VC.strs {ms : List Str} {cs : List Cl} (h : VC ms cs) : ∀ x ∈ ms, PyData.strOk x = true := fun x hx => (h.nm x hx).ok
theorem VC.okc {ms : List Str} {cs : List Cl} (h : VC ms cs) : ∀ c ∈ cs, okC c := fun c hc => (h.ok c hc).okc h.nm
theorem VC.perm {ms ns : List Str} {cs : List Cl} (h : VC ms cs) (p : ms.Perm ns) : VC ns cs :=
  ⟨fun y hy => h.nm y (p.mem_iff.mpr hy), p.nodup_iff.mp h.nd, fun c hc => (h.ok c hc).mono fun x hx => p.mem_iff.mp hx, h.nc⟩
theorem VC.add {ms ns : List Str} {cs ds : List Cl} (h : VC ms cs) (k : VC ns ds) : VC (addL ms ns) (addL cs ds) where
  nm := fun y hy => (mem_add.mp hy).elim (h.nm y) (k.nm y)
  nd := nodup_add h.nd k.nd
  ok := fun c hc => (mem_add.mp hc).elim (fun z => (h.ok c z).mono fun x hx => mem_add.mpr (.inl hx)) fun z => (k.ok c z).mono fun x hx => mem_add.mpr (.inr hx)
  nc := nodup_add h.nc k.nc
theorem momentsF {ms : List Str} {cs : List Cl} : d_Calendar_moments [eCal ms cs] = .ok (eMs ms) := by
  unfold d_Calendar_moments runF s_Calendar_moments
  simp [startE, eCal, eMs]
theorem clausesF {ms : List Str} {cs : List Cl} : d_Calendar_clauses [eCal ms cs] = .ok (eCs cs) := by
  unfold d_Calendar_clauses runF s_Calendar_clauses
  simp [startE, eCal, eMs, eCs]
def isSt (ms : List Str) (d : D) : Bool := match d with
  | .str x => ninB ms x
  | _ => false
theorem filt_str {ms ns : List Str} : ((ns.map D.str).filter (isSt ms)) = (ns.filter (ninB ms)).map D.str := by
  rw [List.filter_map]
  rfl
def isCl (cs : List Cl) (d : D) : Bool := match d with
  | .tup [.str a, .str b, .int n] => ninB cs (a, b, n)
  | _ => false
theorem isCl_e {cs : List Cl} {c : Cl} : isCl cs (eCl c) = ninB cs c := rfl
theorem filt_cl {cs ds : List Cl} : ((ds.map eCl).filter (isCl cs)) = (ds.filter (ninB cs)).map eCl := by
  rw [List.filter_map]
  rfl
theorem nin_msD {ms : List Str} {x : Str} (hx : PyData.strOk x = true) (hm : ∀ y ∈ ms, PyData.strOk y = true) : ninLst (.str x) (eMs ms) = some (.bl (ninB ms x)) := by
  by_cases h : x ∈ ms
  · rw [(in_ms hx hm h).2, ninB_no h]
  · rw [(nin_ms hx hm h).2, ninB_yes h]
theorem nin_csD {cs : List Cl} {c : Cl} (hx : okC c) (hm : ∀ y ∈ cs, okC y) : ninLst (eCl c) (eCs cs) = some (.bl (ninB cs c)) := by
  by_cases h : c ∈ cs
  · rw [(in_cs hx hm h).2, ninB_no h]
  · rw [(nin_cs hx hm h).2, ninB_yes h]
theorem or_1 {ms ns : List Str} {cs ds : List Cl} (h : VC ms cs) (k : VC ns ds) (l : ns.length ≤ 8) :
    e_Calendar_or_1 [some (.fz (eCal ms cs)), some (.fz (eCal ns ds)), none, none, none, none] = .ok (eMs (ns.filter (ninB ms)), [some (.fz (eCal ms cs)), some (.fz (eCal ns ds)), none, none, none, none]) := by
  unfold e_Calendar_or_1
  rw [elc_map (ds := ns.map D.str) (r0 := [some (.fz (eCal ms cs)), some (.fz (eCal ns ds)), none, none, none, none]) (p := isSt ms) (z := id)]
  · simp only [filt_str, List.map_id, eMs]
    simp [restore, wipeE]
  · simp [momentsF]
  · rw [List.length_map]; omega
  · intro d hd
    obtain ⟨x, hx, rfl⟩ := List.mem_map.mp hd
    have e := nin_msD (k.strs x hx) h.strs
    refine ⟨[some (.fz (eCal ms cs)), some (.fz (eCal ns ds)), none, some (.fz (.str x)), none, none], [some (.fz (eCal ms cs)), some (.fz (eCal ns ds)), none, some (.fz (.str x)), none, none], [some (.fz (eCal ms cs)), some (.fz (eCal ns ds)), none, some (.fz (.str x)), none, none], ?_, ?_, ?_, ?_⟩
    · simp [wipeE]
    · simp [e, isSt]
    · intro _
      simp [wipeE]
    · intro _
      simp [wipeE]
theorem or_2 {ms ns : List Str} {cs ds : List Cl} (h : VC ms cs) (k : VC ns ds) (l : ds.length ≤ 40) {x2 : Option Sl} :
    e_Calendar_or_2 [some (.fz (eCal ms cs)), some (.fz (eCal ns ds)), x2, none, none, none] = .ok (eCs (ds.filter (ninB cs)), [some (.fz (eCal ms cs)), some (.fz (eCal ns ds)), x2, none, none, none]) := by
  unfold e_Calendar_or_2
  rw [elc_map (ds := ds.map eCl) (r0 := [some (.fz (eCal ms cs)), some (.fz (eCal ns ds)), x2, none, none, none]) (p := isCl cs) (z := id)]
  · simp only [filt_cl, List.map_id, eCs]
    simp [restore, wipeE]
  · simp [clausesF]
  · rw [List.length_map]; omega
  · intro d hd
    obtain ⟨x, hx, rfl⟩ := List.mem_map.mp hd
    have e := nin_csD (k.okc x hx) h.okc
    refine ⟨[some (.fz (eCal ms cs)), some (.fz (eCal ns ds)), x2, none, none, some (.fz (eCl x))], [some (.fz (eCal ms cs)), some (.fz (eCal ns ds)), x2, none, none, some (.fz (eCl x))], [some (.fz (eCal ms cs)), some (.fz (eCal ns ds)), x2, none, none, some (.fz (eCl x))], ?_, ?_, ?_, ?_⟩
    · simp [wipeE]
    · simp [e, isCl]
    · intro _
      simp [wipeE]
    · intro _
      simp [wipeE]
theorem orF {ms ns : List Str} {cs ds : List Cl} (h : VC ms cs) (k : VC ns ds) (l1 : (addL ms ns).length ≤ 8) (l2 : (addL cs ds).length ≤ 40) (l3 : ns.length ≤ 8) (l4 : ds.length ≤ 40) :
    d_Calendar_or [eCal ms cs, eCal ns ds] = .ok (eCal (sortS (addL ms ns)) (addL cs ds)) := by
  have v := h.add k
  have e := init_ok v.nm v.nd v.ok v.nc l1 l2
  have e1 := or_1 h k l3
  have e2 := or_2 h k l4 (x2 := some (.fz (eMs (ns.filter (ninB ms)))))
  have q1 : ms.length + (ns.filter (ninB ms)).length ≤ 100000 := by
    rw [List.length_append] at l1; omega
  have q2 : cs.length + (ds.filter (ninB cs)).length ≤ 100000 := by
    rw [List.length_append] at l2; omega
  unfold d_Calendar_or runF s_Calendar_or s_Calendar_or_1
  have e' : b_Calendar_init (.ins "Calendar" []) [.lst (ms.map D.str ++ (ns.filter (ninB ms)).map D.str), .lst (cs.map eCl ++ (ds.filter (ninB cs)).map eCl)] = .ok (.non, eCal (sortS (addL ms ns)) (addL cs ds)) := by
    rw [← List.map_append, ← List.map_append]
    exact e
  simp [startE, e1, e2, q1, q2, e']
theorem eqF {ms ns : List Str} {cs ds : List Cl} (h : VC ms cs) (k : VC ns ds) (l1 : cs.length ≤ 40) (l2 : ds.length ≤ 40) (hm : ms = ns) (hc : cs.Perm ds) : d_Calendar_eq [eCal ms cs, eCal ns ds] = .ok (.bl true) := by
  subst hm
  have e1 := sortedD_cs h.okc (by omega : cs.length ≤ 100000)
  have e2 := sortedD_cs k.okc (by omega : ds.length ≤ 100000)
  rw [sortC_eq hc] at e1
  have e3 := (eqD_same (fine_ms h.strs).ok strict_ms).2
  have fc : Fine 2 (eCs (sortC ds)) := fine_cs fun c hc => k.okc c ((sortC_perm ds).mem_iff.mp hc)
  have e4 := (eqD_same fc.ok strict_cs).1
  unfold d_Calendar_eq runF s_Calendar_eq s_Calendar_eq_1
  simp [startE, momentsF, clausesF, e3, e1, e2, e4]
/-! ### days -/
def holds (nr : Nr) (c : Cl) : Bool := decide (getN nr c.1 ≤ getN nr c.2.1 + c.2.2)
/-- days of just these moments -/
structure NOk (ms : List Str) (nr : Nr) : Prop where
  nd : (keysN nr).Nodup
  ln : nr.length = ms.length
  mem : ∀ x ∈ ms, x ∈ keysN nr
  day : ("day" : Str) ∉ keysN nr
def withDay (nr : Nr) : Nr := nr ++ [(("day" : Str), 0)]
theorem withDay_mem {ms : List Str} {nr : Nr} {x : Str} (h : NOk ms nr) (hx : x = "day" ∨ x ∈ ms) : x ∈ keysN (withDay nr) := by
  unfold keysN withDay
  rw [List.map_append, List.mem_append]
  rcases hx with rfl | hx
  · right; simp
  · left; exact h.mem x hx
theorem bls {bs : List Bool} : blsOf (bs.map D.bl) = some bs := by
  induction bs with
  | nil => rfl
  | cons b bs ih => simp [blsOf, ih]
theorem all_bl {α : Type} {l : List α} {p : α → Bool} : allD (.lst (l.map fun x => D.bl (p x))) = some (.bl (l.all p)) := by
  have e : (l.map fun x => D.bl (p x)) = (l.map p).map D.bl := by simp
  unfold allD
  simp only
  rw [e, bls]
  simp
def hz (nr : Nr) (d : D) : D := match d with
  | .tup [.str a, .str b, .int n] => .bl (holds nr (a, b, n))
  | _ => .non
theorem map_hz {nr : Nr} {cs : List Cl} : (cs.map eCl).map (hz nr) = cs.map fun c => D.bl (holds nr c) := by
  rw [List.map_map]
  rfl
theorem keeps_1 {ms : List Str} {cs : List Cl} {nr : Nr} (ok : ∀ c ∈ cs, COk ms c) (h : NOk ms nr) (l : cs.length ≤ 40) {x0 : Option Sl} :
    e_lkeeps_1 [x0, some (.fz (eCs cs)), some (.fz (eNear (withDay nr))), none, none, none] = .ok (.lst (cs.map fun c => D.bl (holds (withDay nr) c)), [x0, some (.fz (eCs cs)), some (.fz (eNear (withDay nr))), none, none, none]) := by
  unfold e_lkeeps_1
  rw [elc_map (ds := cs.map eCl) (r0 := [x0, some (.fz (eCs cs)), some (.fz (eNear (withDay nr))), none, none, none]) (p := fun _ => true) (z := hz (withDay nr))]
  · rw [List.filter_eq_self.mpr (by simp), map_hz]
    simp [restore, wipeE]
  · simp
  · rw [List.length_map]; omega
  · intro d hd
    obtain ⟨c, hc, rfl⟩ := List.mem_map.mp hd
    have e1 := dget_near (withDay_mem h (ok c hc).a)
    have e2 := dget_near (withDay_mem h (ok c hc).b)
    refine ⟨[x0, some (.fz (eCs cs)), some (.fz (eNear (withDay nr))), some (.fz (.str c.1)), some (.fz (.str c.2.1)), some (.fz (.int c.2.2))], [x0, some (.fz (eCs cs)), some (.fz (eNear (withDay nr))), some (.fz (.str c.1)), some (.fz (.str c.2.1)), some (.fz (.int c.2.2))], [x0, some (.fz (eCs cs)), some (.fz (eNear (withDay nr))), some (.fz (.str c.1)), some (.fz (.str c.2.1)), some (.fz (.int c.2.2))], ?_, ?_, ?_, ?_⟩
    · simp [wipeE]
    · simp
    · intro _
      simp only [pdget] at e1 e2
      simp [wipeE, e1, e2, hz, holds]
    · intro z
      cases z
theorem dict_day {ms : List Str} {nr : Nr} (h : NOk ms nr) : dictP (.lst (nr.map (fun q => D.tup [.str q.1, .int q.2]) ++ [.tup [.str "day", .int 0]])) = some (eNear (withDay nr)) := by
  have nd : (keysN (withDay nr)).Nodup := by
    unfold keysN withDay
    rw [List.map_append, List.nodup_append]
    refine ⟨h.nd, by simp, fun x hx y hy e => ?_⟩
    subst e
    simp at hy
    subst hy
    exact h.day hx
  have e2 := dictP_near nd
  unfold withDay at e2 ⊢
  rw [List.map_append] at e2
  exact e2
theorem keepsF {ms : List Str} {cs : List Cl} {nr : Nr} (ok : ∀ c ∈ cs, COk ms c) (h : NOk ms nr) (l : cs.length ≤ 40) (lm : ms.length ≤ 8) : d_lkeeps [eNear nr, eCs cs] = .ok (.bl (cs.all (holds (withDay nr)))) := by
  have e1 := keeps_1 ok h l (x0 := some (.fz (eNear nr)))
  have e2 := dict_day h
  have e3 := items_near nr
  have q : nr.length + 1 ≤ 100000 := by have := h.ln; omega
  unfold d_lkeeps runF s_lkeeps
  simp [startE, e3, q, dictD, e2, e1, all_bl]
theorem cont_1 {ms : List Str} {cs : List Cl} {nr : Nr} (h : NOk ms nr) (l : ms.length ≤ 8) :
    e_Calendar_contains_1 [some (.fz (eCal ms cs)), some (.fz (eNear nr)), none, none, none, none, none] = .ok (.lst (ms.map fun _ => D.bl true), [some (.fz (eCal ms cs)), some (.fz (eNear nr)), none, none, none, none, none]) := by
  unfold e_Calendar_contains_1
  rw [elc_map (ds := ms.map D.str) (r0 := [some (.fz (eCal ms cs)), some (.fz (eNear nr)), none, none, none, none, none]) (p := fun _ => true) (z := fun _ => .bl true)]
  · rw [List.filter_eq_self.mpr (by simp)]
    simp [restore, wipeE]
  · simp
  · rw [List.length_map]; omega
  · intro d hd
    obtain ⟨x, hx, rfl⟩ := List.mem_map.mp hd
    have e1 := dget_near (h.mem x hx)
    have e2 := din_near (h.mem x hx)
    have e3 : ∀ i : Int, d_is_integer [.int i] = .ok (.bl true) := fun i => rfl
    refine ⟨[some (.fz (eCal ms cs)), some (.fz (eNear nr)), some (.fz (.str x)), none, none, none, none], [some (.fz (eCal ms cs)), some (.fz (eNear nr)), some (.fz (.str x)), none, none, none, none], [some (.fz (eCal ms cs)), some (.fz (eNear nr)), some (.fz (.str x)), none, none, none, none], ?_, ?_, ?_, ?_⟩
    · simp [wipeE]
    · simp
    · intro _
      simp only [pdget] at e1
      simp [wipeE, e1, e2, e3]
    · intro z
      cases z
theorem cont_2 {ms : List Str} {cs : List Cl} {nr : Nr} (ok : ∀ c ∈ cs, COk ms c) (h : NOk ms nr) (l : cs.length ≤ 40) {x1 : Option Sl} :
    e_Calendar_contains_2 [some (.fz (eCal ms cs)), x1, none, some (.ow (eNear (withDay nr))), none, none, none] = .ok (.lst (cs.map fun c => D.bl (holds (withDay nr) c)), [some (.fz (eCal ms cs)), x1, none, some (.ow (eNear (withDay nr))), none, none, none]) := by
  unfold e_Calendar_contains_2
  rw [elc_map (ds := cs.map eCl) (r0 := [some (.fz (eCal ms cs)), x1, none, some (.ow (eNear (withDay nr))), none, none, none]) (p := fun _ => true) (z := hz (withDay nr))]
  · rw [List.filter_eq_self.mpr (by simp), map_hz]
    simp [restore, wipeE]
  · simp
  · rw [List.length_map]; omega
  · intro d hd
    obtain ⟨c, hc, rfl⟩ := List.mem_map.mp hd
    have e1 := dget_near (withDay_mem h (ok c hc).a)
    have e2 := dget_near (withDay_mem h (ok c hc).b)
    refine ⟨[some (.fz (eCal ms cs)), x1, none, some (.ow (eNear (withDay nr))), some (.fz (.str c.1)), some (.fz (.str c.2.1)), some (.fz (.int c.2.2))], [some (.fz (eCal ms cs)), x1, none, some (.ow (eNear (withDay nr))), some (.fz (.str c.1)), some (.fz (.str c.2.1)), some (.fz (.int c.2.2))], [some (.fz (eCal ms cs)), x1, none, some (.ow (eNear (withDay nr))), some (.fz (.str c.1)), some (.fz (.str c.2.1)), some (.fz (.int c.2.2))], ?_, ?_, ?_, ?_⟩
    · simp [wipeE]
    · simp
    · intro _
      simp only [pdget] at e1 e2
      simp [wipeE, e1, e2, hz, holds]
    · intro z
      cases z
theorem put_day {ms : List Str} {nr : Nr} (h : NOk ms nr) : putKD (nr.map fun q => ((Sum.inr q.1 : Key), D.int q.2)) (Sum.inr "day") (.int 0) = (withDay nr).map fun q => ((Sum.inr q.1 : Key), D.int q.2) := putKD_new h.day
theorem containsF {ms : List Str} {cs : List Cl} {nr : Nr} (ok : ∀ c ∈ cs, COk ms c) (h : NOk ms nr) (l : cs.length ≤ 40) (lm : ms.length ≤ 8) : d_Calendar_contains [eCal ms cs, eNear nr] = .ok (.bl (cs.all (holds (withDay nr)))) := by
  have e1 := cont_1 (cs := cs) h lm
  have e2 := cont_2 ok h l (x1 := some (.fz (eNear nr)))
  have e3 : allD (.lst (ms.map fun _ => D.bl true)) = some (.bl true) := by
    rw [all_bl (l := ms) (p := fun _ => true)]
    simp
  have e4 := put_day h
  have q : ms.length < 100000 := by omega
  have q2 := h.ln
  unfold d_Calendar_contains runF s_Calendar_contains s_Calendar_contains_1 s_Calendar_contains_2
  simp [startE, q2, e1, e3, dictD, sDPutD, keyD, e4, q, e2, all_bl]
end K10

set_option Elab.async false
set_option linter.all false
set_option maxRecDepth 100000
set_option maxHeartbeats 4000000
namespace K10
open PySem L2 Dl
def five : List Int := [-2, -1, 0, 1, 2]
def oneN (x : Str) (nr : Nr) : List Nr := five.map fun d => nr ++ [(x, d)]
def stepN (found : List Nr) (x : Str) : List Nr := found.flatMap (oneN x)
def allN (ls : List Str) : List Nr := ls.foldl stepN [[]]
theorem all_1 {x0 x1 : Option Sl} {x : Str} {lon : D} {nr : Nr} (nd : (keysN nr).Nodup) (hx : x ∉ keysN nr) (hl : nr.length ≤ 8) :
    e_lall_1 [x0, x1, some (.fz (.str x)), some (.ow lon), some (.fz (eNear nr)), none] = .ok (.lst ((oneN x nr).map eNear), [x0, x1, some (.fz (.str x)), some (.ow lon), some (.fz (eNear nr)), none]) := by
  unfold e_lall_1
  rw [elc_all (l := five) (f := D.int) (z := fun d => eNear (nr ++ [(x, d)])) (r0 := [x0, x1, some (.fz (.str x)), some (.ow lon), some (.fz (eNear nr)), none])]
  · simp [restore, wipeE, oneN]
  · simp
    rfl
  · decide
  · intro d hd
    have e1 := items_near nr
    have e2 : dictP (.lst (nr.map (fun q => D.tup [.str q.1, .int q.2]) ++ [.tup [.str x, .int d]])) = some (eNear (nr ++ [(x, d)])) := by
      have q : (keysN (nr ++ [(x, d)])).Nodup := by
        unfold keysN
        rw [List.map_append, List.nodup_append]
        refine ⟨nd, by simp, fun y hy z hz e => ?_⟩
        subst e
        simp at hz
        subst hz
        exact hx hy
      have := dictP_near q
      rw [List.map_append] at this
      exact this
    have q : nr.length + 1 ≤ 100000 := by omega
    refine ⟨[x0, x1, some (.fz (.str x)), some (.ow lon), some (.fz (eNear nr)), some (.fz (.int d))], [x0, x1, some (.fz (.str x)), some (.ow lon), some (.fz (eNear nr)), some (.fz (.int d))], ?_, ?_, ?_⟩
    · simp [wipeE]
    · simp [e1, q, dictD, e2]
    · simp [wipeE]
theorem flat_snoc {α β : Type} {f : α → List β} {l : List α} {x : α} : (l ++ [x]).flatMap f = l.flatMap f ++ f x := by simp
theorem one_len {x : Str} {nr : Nr} : (oneN x nr).length = 5 := rfl
theorem step_len {x : Str} : ∀ {found : List Nr}, (stepN found x).length = 5 * found.length
  | [] => rfl
  | nr :: found => by
    have ih := step_len (x := x) (found := found)
    unfold stepN at ih ⊢
    rw [List.flatMap_cons, List.length_append, ih, one_len, List.length_cons]
    omega
theorem all_22 {x0 x4 : Option Sl} {x : Str} {found : List Nr} (nd : ∀ nr ∈ found, (keysN nr).Nodup ∧ x ∉ keysN nr ∧ nr.length ≤ 8) (hl : found.length ≤ 1000) :
    ∃ y4, s_lall_2_2 [x0, some (.fz (.lst (found.map eNear))), some (.fz (.str x)), some (.ow (.lst [])), x4, none] = .nx [x0, some (.fz (.lst (found.map eNear))), some (.fz (.str x)), some (.ow (.lst ((stepN found x).map eNear))), y4, none] := by
  obtain ⟨r', e, y4, rfl⟩ := for_map (f := eNear) (g := gNm 4) (b := s_lall_2_2_b) (I := fun pre r => ∃ y4, r = [x0, some (.fz (.lst (found.map eNear))), some (.fz (.str x)), some (Sl.ow (.lst ((stepN pre x).map eNear))), y4, none]) found
    [x0, some (.fz (.lst (found.map eNear))), some (.fz (.str x)), some (.ow (.lst [])), x4, none] ⟨x4, rfl⟩ (by
      rintro pre nr suf r hf ⟨y4, rfl⟩
      obtain ⟨h1, h2, h3⟩ := nd nr (by rw [hf]; simp)
      have e1 := all_1 (x0 := x0) (x1 := some (.fz (.lst (found.map eNear)))) (lon := .lst ((stepN pre x).map eNear)) h1 h2 h3
      have hp : pre.length ≤ 1000 := by rw [hf] at hl; simp at hl; omega
      have q : (stepN pre x).length + (oneN x nr).length < 100000 := by rw [step_len, one_len]; omega
      refine ⟨_, _, rfl, .inl ?_, some (.fz (eNear nr)), rfl⟩
      unfold s_lall_2_2_b
      simp [e1, q]
      unfold stepN
      rw [flat_snoc, List.map_append])
  refine ⟨y4, ?_⟩
  unfold s_lall_2_2
  simp [e]
theorem keys_step {x : Str} {found : List Nr} {ls : List Str} (h : ∀ nr ∈ found, keysN nr = ls) : ∀ nr ∈ stepN found x, keysN nr = ls ++ [x] := by
  intro nr hn
  obtain ⟨n0, h0, h1⟩ := List.mem_flatMap.mp hn
  obtain ⟨d, _, rfl⟩ := List.mem_map.mp h1
  unfold keysN
  rw [List.map_append]
  have := h n0 h0
  unfold keysN at this
  rw [this]
  rfl
theorem allN_snoc {ls : List Str} {x : Str} : allN (ls ++ [x]) = stepN (allN ls) x := by
  unfold allN
  rw [List.foldl_append]
  rfl
theorem allN_keys : ∀ (n : Nat) (ls : List Str), ls.length = n → ∀ nr ∈ allN ls, keysN nr = ls
  | 0, ls, h, nr, hn => by
    cases List.length_eq_zero_iff.mp h
    unfold allN at hn
    simp at hn
    subst hn
    rfl
  | n + 1, ls, h, nr, hn => by
    have hne : ls ≠ [] := fun z => by rw [z] at h; simp at h
    rw [← List.dropLast_concat_getLast hne] at hn ⊢
    rw [allN_snoc] at hn
    exact keys_step (allN_keys n ls.dropLast (by rw [List.length_dropLast, h]; rfl)) nr hn
theorem allN_len : ∀ (n : Nat) (ls : List Str), ls.length = n → (allN ls).length = 5 ^ n
  | 0, ls, h => by
    cases List.length_eq_zero_iff.mp h
    rfl
  | n + 1, ls, h => by
    have hne : ls ≠ [] := fun z => by rw [z] at h; simp at h
    rw [← List.dropLast_concat_getLast hne, allN_snoc, step_len, allN_len n ls.dropLast (by rw [List.length_dropLast, h]; rfl), Nat.pow_succ, Nat.mul_comm]
theorem len_keys {nr : Nr} {ls : List Str} (h : keysN nr = ls) : nr.length = ls.length := by
  rw [← h]
  unfold keysN
  rw [List.length_map]
theorem allF {ls : List Str} (nd : ls.Nodup) (hl : ls.length ≤ 4) : d_lall [eMs ls] = .ok (.lst ((allN ls).map eNear)) := by
  obtain ⟨r', e, y2, y3, y4, rfl⟩ := for_map (f := D.str) (g := gNm 2) (b := s_lall_2_b) (I := fun pre r => ∃ y2 y3 y4, r = [some (.fz (eMs ls)), some (Sl.fz (.lst ((allN pre).map eNear))), y2, y3, y4, none]) ls
    [some (.fz (eMs ls)), some (.fz (.lst [.dk []])), none, none, none, none] ⟨none, none, none, rfl⟩ (by
      rintro pre x suf r hf ⟨y2, y3, y4, rfl⟩
      have hp : pre.length ≤ 3 := by rw [hf] at hl; simp at hl; omega
      have hk := allN_keys pre.length pre rfl
      have hx : x ∉ pre := by
        rw [hf, List.nodup_append] at nd
        exact fun z => nd.2.2 x z x (by simp) rfl
      have hpn : pre.Nodup := by
        rw [hf, List.nodup_append] at nd
        exact nd.1
      have hlen : (allN pre).length ≤ 1000 := by
        rw [allN_len pre.length pre rfl]
        have : 5 ^ pre.length ≤ 5 ^ 3 := Nat.pow_le_pow_right (by decide) hp
        omega
      obtain ⟨z4, e2⟩ := all_22 (x0 := some (.fz (eMs ls))) (x4 := y4) (x := x) (found := allN pre) (fun nr hn => by
        have := hk nr hn
        rw [this, len_keys this]
        exact ⟨hpn, hx, by omega⟩) hlen
      refine ⟨_, [some (.fz (eMs ls)), some (Sl.fz (.lst ((allN (pre ++ [x])).map eNear))), some (.fz (.str x)), some (.ow (.lst ((stepN (allN pre) x).map eNear))), z4, none], rfl, .inl ?_, _, _, _, rfl⟩
      unfold s_lall_2_b
      simp [e2]
      rw [allN_snoc])
  unfold d_lall runF s_lall s_lall_2
  simp [startE, e]
/-! ### merged -/
def eDr (ls : List Str) (cs : List Cl) : D := .tup [eMs ls, eCs cs]
theorem mergedF {ms ns : List Str} {cs ds : List Cl} (h : VC ms cs) (k : VC ns ds) (l1 : ms.length ≤ 8) (l2 : cs.length ≤ 40) (l3 : ns.length ≤ 8) (l4 : ds.length ≤ 40) : d_lmerged [eDr ms cs, eDr ns ds] = .ok (eDr (addL ms ns) (addL cs ds)) := by
  have q1 : ms.length + (ns.filter (ninB ms)).length ≤ 100000 := by have := List.length_filter_le (ninB ms) ns; omega
  have q2 : cs.length + (ds.filter (ninB cs)).length ≤ 100000 := by have := List.length_filter_le (ninB cs) ds; omega
  have e1 : e_lmerged_1 [some (.fz (eDr ms cs)), some (.fz (eDr ns ds)), none, none, none] = .ok (eMs (ns.filter (ninB ms)), [some (.fz (eDr ms cs)), some (.fz (eDr ns ds)), none, none, none]) := by
    unfold e_lmerged_1
    rw [elc_of (l := ns) (f := D.str) (z := D.str) (p := ninB ms) (r0 := [some (.fz (eDr ms cs)), some (.fz (eDr ns ds)), none, none, none])]
    · simp [restore, wipeE]
    · simp [eDr]
    · omega
    · intro x hx
      have e := nin_msD (k.strs x hx) h.strs
      refine ⟨[some (.fz (eDr ms cs)), some (.fz (eDr ns ds)), none, some (.fz (.str x)), none], [some (.fz (eDr ms cs)), some (.fz (eDr ns ds)), none, some (.fz (.str x)), none], [some (.fz (eDr ms cs)), some (.fz (eDr ns ds)), none, some (.fz (.str x)), none], ?_, ?_, ?_, ?_⟩
      · simp [wipeE]
      · simp [eDr, e]
      · intro _
        simp [wipeE]
      · intro _
        simp [wipeE]
  have e2 : ∀ x2 : Option Sl, e_lmerged_2 [some (.fz (eDr ms cs)), some (.fz (eDr ns ds)), x2, none, none] = .ok (eCs (ds.filter (ninB cs)), [some (.fz (eDr ms cs)), some (.fz (eDr ns ds)), x2, none, none]) := by
    intro x2
    unfold e_lmerged_2
    rw [elc_of (l := ds) (f := eCl) (z := eCl) (p := ninB cs) (r0 := [some (.fz (eDr ms cs)), some (.fz (eDr ns ds)), x2, none, none])]
    · simp [restore, wipeE]
    · simp [eDr]
    · omega
    · intro x hx
      have e := nin_csD (k.okc x hx) h.okc
      refine ⟨[some (.fz (eDr ms cs)), some (.fz (eDr ns ds)), x2, none, some (.fz (eCl x))], [some (.fz (eDr ms cs)), some (.fz (eDr ns ds)), x2, none, some (.fz (eCl x))], [some (.fz (eDr ms cs)), some (.fz (eDr ns ds)), x2, none, some (.fz (eCl x))], ?_, ?_, ?_, ?_⟩
      · simp [wipeE]
      · simp [eDr, e]
      · intro _
        simp [wipeE]
      · intro _
        simp [wipeE]
  unfold d_lmerged runF s_lmerged
  simp [eDr] at e1 e2
  simp [startE, eDr, e1, e2, q1, q2]
end K10

set_option Elab.async false
set_option linter.all false
set_option maxRecDepth 100000
set_option maxHeartbeats 4000000
namespace K10
open PySem L2 Dl
theorem nok_of {ls ms : List Str} {cs : List Cl} {nr : Nr} (h : VC ls cs) (e : keysN nr = ls) (p : ms.Perm ls) : NOk ms nr where
  nd := by rw [e]; exact h.nd
  ln := by rw [len_keys e, p.length_eq]
  mem := fun x hx => by rw [e]; exact p.mem_iff.mp hx
  day := by
    rw [e]
    exact fun z => (h.nm _ z).nd rfl
theorem VC.sorted {ms : List Str} {cs : List Cl} (h : VC ms cs) : VC (sortS ms) cs := h.perm (sortS_perm ms).symm
theorem sort_len {ms : List Str} : (sortS ms).length = ms.length := (sortS_perm ms).length_eq
theorem isToldF {ls : List Str} {cs : List Cl} (h : VC ls cs) (l1 : ls.length ≤ 4) (l2 : cs.length ≤ 40) : d_lis_told [eCal (sortS ls) cs, eDr ls cs] = .ok (.bl true) := by
  have e1 := sortedD_ms h.strs (by omega : ls.length ≤ 100000)
  have e2 := (eqD_same (fine_ms h.sorted.strs).ok strict_ms).2
  have e3 := (eqD_same (fine_cs h.okc).ok strict_cs).2
  have ea := allF h.nd l1
  have ln : (allN ls).length ≤ 1000 := by
    rw [allN_len ls.length ls rfl]
    have : 5 ^ ls.length ≤ 5 ^ 4 := Nat.pow_le_pow_right (by decide) l1
    omega
  have e4 : e_lis_told_1 [some (.fz (eCal (sortS ls) cs)), some (.fz (eDr ls cs)), none] = .ok (.lst ((allN ls).map fun _ => D.bl true), [some (.fz (eCal (sortS ls) cs)), some (.fz (eDr ls cs)), none]) := by
    unfold e_lis_told_1
    rw [elc_all (l := allN ls) (f := eNear) (z := fun _ => D.bl true) (r0 := [some (.fz (eCal (sortS ls) cs)), some (.fz (eDr ls cs)), none])]
    · simp [restore, wipeE]
    · simp [eDr, ea]
    · omega
    · intro nr hn
      have hk := allN_keys ls.length ls rfl nr hn
      have c1 := containsF h.sorted.ok (nok_of h hk (sortS_perm ls)) l2 (by rw [sort_len]; omega)
      have c2 := keepsF h.ok (nok_of h hk (List.Perm.refl ls)) l2 (by omega)
      refine ⟨[some (.fz (eCal (sortS ls) cs)), some (.fz (eDr ls cs)), some (.fz (eNear nr))], [some (.fz (eCal (sortS ls) cs)), some (.fz (eDr ls cs)), some (.fz (eNear nr))], ?_, ?_, ?_⟩
      · simp [wipeE]
      · simp [eDr, c1, c2, reprB]
      · simp [wipeE]
  have e5 : allD (.lst ((allN ls).map fun _ => D.bl true)) = some (.bl true) := by
    rw [all_bl (l := allN ls) (p := fun _ => true)]
    simp
  unfold d_lis_told runF s_lis_told s_lis_told_1
  simp [eDr] at e4
  simp [startE, eDr, momentsF, clausesF, e1, e2, e3, e4, e5]
/-! ### parts of days -/
def restr (ms : List Str) (nr : Nr) : Nr := ms.map fun x => (x, getN nr x)
theorem restr_keys {ms : List Str} {nr : Nr} : keysN (restr ms nr) = ms := by
  unfold keysN restr
  rw [List.map_map]
  exact List.map_id' ms
theorem getN_restr {nr : Nr} {x : Str} : ∀ {ms : List Str}, x ∈ ms → getN (restr ms nr) x = getN nr x
  | [], h => by cases h
  | y :: ms, h => by
    unfold getN restr
    by_cases e : y = x
    · simp [List.find?_cons, e]
      rfl
    · have h' := (List.mem_cons.mp h).resolve_left fun z => e z.symm
      have ih := getN_restr (nr := nr) h'
      unfold getN restr at ih
      rw [List.map_cons, List.find?_cons]
      simp only [e, decide_false]
      exact ih
theorem getN_day {nr : Nr} (h : ("day" : Str) ∉ keysN nr) : getN (withDay nr) "day" = 0 := by
  unfold getN withDay
  rw [List.find?_append]
  have e : nr.find? (fun q => decide (q.1 = ("day" : Str))) = none := by
    rw [List.find?_eq_none]
    intro q hq z
    exact h (by unfold keysN; exact List.mem_map.mpr ⟨q, hq, by simpa using z⟩)
  rw [e]
  simp
theorem getN_with {nr : Nr} {x : Str} (h : x ∈ keysN nr) : getN (withDay nr) x = getN nr x := by
  unfold getN withDay
  rw [List.find?_append]
  cases e : nr.find? (fun q => decide (q.1 = x)) with
  | none =>
    rw [List.find?_eq_none] at e
    obtain ⟨q, hq, z⟩ := List.mem_map.mp (show x ∈ nr.map (·.1) from h)
    exact absurd (by simpa using z) (e q hq)
  | some q => rfl
theorem getN_part {ms ls : List Str} {nr : Nr} {x : Str} (hk : keysN nr = ls) (hs : ∀ y ∈ ms, y ∈ ls) (hd : ("day" : Str) ∉ ls) (hx : x = "day" ∨ x ∈ ms) : getN (withDay (restr ms nr)) x = getN (withDay nr) x := by
  rcases hx with rfl | hx
  · rw [getN_day, getN_day]
    · rw [hk]; exact hd
    · rw [restr_keys]; exact fun z => hd (hs _ z)
  · rw [getN_with, getN_with, getN_restr hx]
    · rw [hk]; exact hs x hx
    · rw [restr_keys]; exact hx
theorem holds_part {ms ls : List Str} {nr : Nr} {c : Cl} (hk : keysN nr = ls) (hs : ∀ y ∈ ms, y ∈ ls) (hd : ("day" : Str) ∉ ls) (hc : COk ms c) : holds (withDay (restr ms nr)) c = holds (withDay nr) c := by
  unfold holds
  rw [getN_part hk hs hd hc.a, getN_part hk hs hd hc.b]
theorem all_part {ms ls : List Str} {nr : Nr} {cs : List Cl} (hk : keysN nr = ls) (hs : ∀ y ∈ ms, y ∈ ls) (hd : ("day" : Str) ∉ ls) (hc : ∀ c ∈ cs, COk ms c) : cs.all (holds (withDay (restr ms nr))) = cs.all (holds (withDay nr)) := by
  induction cs with
  | nil => rfl
  | cons c cs ih =>
    rw [List.all_cons, List.all_cons, holds_part hk hs hd (hc c (by simp)), ih fun x hx => hc x (List.mem_cons_of_mem _ hx)]
theorem all_add {cs ds : List Cl} {p : Cl → Bool} : (addL cs ds).all p = (cs.all p && ds.all p) := by
  rw [Bool.eq_iff_iff, Bool.and_eq_true]
  simp only [List.all_eq_true]
  constructor
  · exact fun h => ⟨fun x hx => h x (mem_add.mpr (.inl hx)), fun x hx => h x (mem_add.mpr (.inr hx))⟩
  · rintro ⟨h1, h2⟩ x hx
    exact (mem_add.mp hx).elim (h1 x) (h2 x)
theorem add_perm {α : Type} [DecidableEq α] {a a' b b' : List α} (h : a.Perm a') (k : b.Perm b') : (addL a b).Perm (addL a' b') := by
  have e : ninB a = ninB a' := by
    funext x
    unfold ninB
    simp [h.mem_iff]
  unfold addL
  rw [e]
  exact h.append (k.filter _)
theorem getN_val {nr : Nr} {x : Str} (h : x ∈ keysN nr) : dgetD (eNear nr) (.str x) = some (.int (getN nr x)) := dget_near h
theorem two_1 {x1 x2 x3 x4 x5 x7 : Option Sl} {drs : List D} {ls ms : List Str} {cs : List Cl} {nr : Nr} {k : Int} (hd : atI drs k = some (eDr ms cs)) (hk : keysN nr = ls) (hs : ∀ y ∈ ms, y ∈ ls) (hl : ms.length ≤ 8) :
    e_ltwo_right_1 [some (.fz (.lst drs)), x1, x2, x3, x4, x5, some (.fz (eNear nr)), x7, none, some (.fz (.int k))] = .ok (.lst ((restr ms nr).map fun q => D.tup [.str q.1, .int q.2]), [some (.fz (.lst drs)), x1, x2, x3, x4, x5, some (.fz (eNear nr)), x7, none, some (.fz (.int k))]) := by
  unfold e_ltwo_right_1
  rw [elc_all (l := ms) (f := D.str) (z := fun x => D.tup [.str x, .int (getN nr x)]) (r0 := [some (.fz (.lst drs)), x1, x2, x3, x4, x5, some (.fz (eNear nr)), x7, none, some (.fz (.int k))])]
  · simp [restore, wipeE, restr]
  · simp [hd, eDr]
  · omega
  · intro x hx
    have e := getN_val (nr := nr) (x := x) (by rw [hk]; exact hs x hx)
    simp only [pdget] at e
    refine ⟨[some (.fz (.lst drs)), x1, x2, x3, x4, x5, some (.fz (eNear nr)), x7, some (.fz (.str x)), some (.fz (.int k))], [some (.fz (.lst drs)), x1, x2, x3, x4, x5, some (.fz (eNear nr)), x7, some (.fz (.str x)), some (.fz (.int k))], ?_, ?_, ?_⟩
    · simp [wipeE]
    · simp [e]
    · simp [wipeE]
theorem two_2 {x1 x4 x5 x7 : Option Sl} {drs : List D} {ls ms ns : List Str} {cs ds : List Cl} {nr : Nr} {k j : Int} (hd : atI drs k = some (eDr ms cs)) (hd' : atI drs j = some (eDr ns ds)) (hk : keysN nr = ls) (hs : ∀ y ∈ ms, y ∈ ls) (hs' : ∀ y ∈ ns, y ∈ ls)
    (hl : ms.length ≤ 8) (hl' : ns.length ≤ 8) (nd : ms.Nodup) (nd' : ns.Nodup) :
    e_ltwo_right_2 [some (.fz (.lst drs)), x1, some (.fz (.int k)), some (.fz (.int j)), x4, x5, some (.fz (eNear nr)), x7, none, none] = .ok (.lst [eNear (restr ms nr), eNear (restr ns nr)], [some (.fz (.lst drs)), x1, some (.fz (.int k)), some (.fz (.int j)), x4, x5, some (.fz (eNear nr)), x7, none, none]) := by
  have e1 := two_1 (x1 := x1) (x2 := some (.fz (.int k))) (x3 := some (.fz (.int j))) (x4 := x4) (x5 := x5) (x7 := x7) hd hk hs hl
  have e2 := two_1 (x1 := x1) (x2 := some (.fz (.int k))) (x3 := some (.fz (.int j))) (x4 := x4) (x5 := x5) (x7 := x7) hd' hk hs' hl'
  have f1 := dictP_near (nr := restr ms nr) (by rw [restr_keys]; exact nd)
  have f2 := dictP_near (nr := restr ns nr) (by rw [restr_keys]; exact nd')
  unfold e_ltwo_right_2 eLc
  simp [lcLoop, wipeE, noX, e1, e2, dictD, f1, f2, restore]
theorem two_b {drs chs : List D} {ls ms ns : List Str} {cs ds : List Cl} {nr : Nr} {k j : Int} (h : VC ms cs) (h' : VC ns ds) (hd : atI drs k = some (eDr ms cs)) (hd' : atI drs j = some (eDr ns ds)) (hc : atI chs k = some (eCal (sortS ms) cs)) (hc' : atI chs j = some (eCal (sortS ns) ds))
    (hl : (addL ms ns).length ≤ 4) (l1 : ms.length ≤ 4) (l2 : ns.length ≤ 4) (l3 : cs.length ≤ 4) (l4 : ds.length ≤ 4) (hk : keysN nr = addL ms ns) {x5 x7 : Option Sl} :
    ∃ y7, s_ltwo_right_3_b [some (.fz (.lst drs)), some (.fz (.lst chs)), some (.fz (.int k)), some (.fz (.int j)), some (.fz (eCal (sortS (addL ms ns)) (addL cs ds))), x5, some (.fz (eNear nr)), x7, none, none] =
      .nx [some (.fz (.lst drs)), some (.fz (.lst chs)), some (.fz (.int k)), some (.fz (.int j)), some (.fz (eCal (sortS (addL ms ns)) (addL cs ds))), x5, some (.fz (eNear nr)), y7, none, none] := by
  have v := h.add h'
  have day : ("day" : Str) ∉ addL ms ns := fun z => (v.nm _ z).nd rfl
  have s1 : ∀ y ∈ ms, y ∈ addL ms ns := fun y hy => mem_add.mpr (.inl hy)
  have s2 : ∀ y ∈ ns, y ∈ addL ms ns := fun y hy => mem_add.mpr (.inr hy)
  have e2 := two_2 (x1 := some (.fz (.lst chs))) (x4 := some (.fz (eCal (sortS (addL ms ns)) (addL cs ds)))) (x5 := x5) (x7 := x7) hd hd' hk s1 s2 (by omega) (by omega) h.nd h'.nd
  have lc : (addL cs ds).length ≤ 40 := by
    rw [List.length_append]
    have := List.length_filter_le (ninB cs) ds
    omega
  have c0 := containsF v.sorted.ok (nok_of v hk (sortS_perm _)) lc (by rw [sort_len]; omega)
  have c1 := containsF h.sorted.ok (nok_of (nr := restr ms nr) h restr_keys (sortS_perm _)) (by omega) (by rw [sort_len]; omega)
  have c2 := containsF h'.sorted.ok (nok_of (nr := restr ns nr) h' restr_keys (sortS_perm _)) (by omega) (by rw [sort_len]; omega)
  rw [all_part hk s1 day h.ok] at c1
  rw [all_part hk s2 day h'.ok] at c2
  rw [all_add] at c0
  refine ⟨some (.fz (.lst [eNear (restr ms nr), eNear (restr ns nr)])), ?_⟩
  unfold s_ltwo_right_3_b s_ltwo_right_3_2
  cases q1 : cs.all (holds (withDay nr)) <;> cases q2 : ds.all (holds (withDay nr)) <;> simp [q1, q2] at c0 c1 c2 <;> simp [e2, c0, hc, hc', c1, c2, reprB]
theorem twoF {drs chs : List D} {ms ns : List Str} {cs ds : List Cl} {k j : Int} (h : VC ms cs) (h' : VC ns ds) (hd : atI drs k = some (eDr ms cs)) (hd' : atI drs j = some (eDr ns ds)) (hc : atI chs k = some (eCal (sortS ms) cs)) (hc' : atI chs j = some (eCal (sortS ns) ds))
    (hl : (addL ms ns).length ≤ 4) (l1 : ms.length ≤ 4) (l2 : ns.length ≤ 4) (l3 : cs.length ≤ 4) (l4 : ds.length ≤ 4) : d_ltwo_right [.lst drs, .lst chs, .int k, .int j] = .ok (.bl true) := by
  have v := h.add h'
  have lc : (addL cs ds).length ≤ 40 := by
    rw [List.length_append]
    have := List.length_filter_le (ninB cs) ds
    omega
  have pm := add_perm (sortS_perm ms) (sortS_perm ns)
  have o := orF h.sorted h'.sorted (by rw [pm.length_eq]; omega) lc (by rw [sort_len]; omega) (by omega)
  rw [sortS_eq pm] at o
  have m := mergedF h h' (by omega) (by omega) (by omega) (by omega)
  have t := isToldF v hl lc
  have t1 := isToldF h l1 (by omega)
  have t2 := isToldF h' l2 (by omega)
  have ea := allF v.nd hl
  obtain ⟨r', e, y6, y7, rfl⟩ := for_map (f := eNear) (g := gNm 6) (b := s_ltwo_right_3_b) (I := fun _ r => ∃ y6 y7, r = [some (Sl.fz (.lst drs)), some (.fz (.lst chs)), some (.fz (.int k)), some (.fz (.int j)), some (.fz (eCal (sortS (addL ms ns)) (addL cs ds))), some (.fz (eDr (addL ms ns) (addL cs ds))), y6, y7, none, none]) (allN (addL ms ns))
    [some (Sl.fz (.lst drs)), some (.fz (.lst chs)), some (.fz (.int k)), some (.fz (.int j)), some (.fz (eCal (sortS (addL ms ns)) (addL cs ds))), some (.fz (eDr (addL ms ns) (addL cs ds))), none, none, none, none] ⟨none, none, rfl⟩ (by
      rintro pre nr suf r hf ⟨y6, y7, rfl⟩
      have hk := allN_keys _ (addL ms ns) rfl nr (by rw [hf]; simp)
      obtain ⟨z7, eb⟩ := two_b (ls := []) h h' hd hd' hc hc' hl l1 l2 l3 l4 hk (x5 := some (.fz (eDr (addL ms ns) (addL cs ds)))) (x7 := y7)
      exact ⟨_, _, rfl, .inl eb, _, _, rfl⟩)
  unfold d_ltwo_right runF s_ltwo_right s_ltwo_right_2 s_ltwo_right_3
  simp [eDr] at hd hd' m t t1 t2 e ea
  simp [startE, hd, hd', hc, hc', o, m, t, ea, e, t1, t2]
end K10

set_option Elab.async false
set_option linter.all false
set_option maxRecDepth 100000
set_option maxHeartbeats 4000000
namespace Dl
open PySem L2
@[simp] theorem pgsetix {i : Nat} {fi : En → Res (D × En)} {d : D} {r : En} : gSetIx i fi d r = if isMine r i = true then (fi r).bind fun p => atMine p.2 i fun s => match s.d with
  | .lst ds => (match ixD ds.length p.1 with
    | some j => .ok (p.2.set i (some (s.put (.lst (ds.set j d)))))
    | none => .bad)
  | _ => .bad else .bad := rfl
@[simp] theorem pixd0 : ixD 2 (.int 0) = some 0 := rfl
@[simp] theorem pixd1 : ixD 2 (.int 1) = some 1 := rfl
@[simp] theorem pintI {i : Int} : intD (.int i) = some (.int i) := rfl
theorem pmod {a b : Int} (h : 0 < b) : modI (.int a) (.int b) = some (.int (a % b)) := by
  show (if 0 < b then some (D.int (a % b)) else none) = _
  rw [if_pos h]
theorem pfdiv {a b : Int} (h : 0 < b) (k : b < 1073741824) : fdivI (.int a) (.int b) = some (.int (a / b)) := by
  show (if 0 < b ∧ b < 1073741824 then some (D.int (a / b)) else none) = _
  rw [if_pos ⟨h, k⟩]
theorem pmul {a b : Int} (h : -(2 ^ 64) < a ∧ a < 2 ^ 64) : mulI (.int a) (.int b) = some (.int (a * b)) := by
  show (if (-(2 ^ 64) < a ∧ a < 2 ^ 64) ∨ (-(2 ^ 64) < b ∧ b < 2 ^ 64) then some (D.int (a * b)) else none) = _
  rw [if_pos (.inl h)]
/-- a pot -/
def VP (d : D) : Prop := ∃ p0 p1 : Int, d = .lst [.int p0, .int p1] ∧ 0 ≤ p0 ∧ 0 ≤ p1 ∧ p1 < 2147483648
end Dl
namespace K10
open PySem L2 Dl
theorem drawF {pot : D} {n : Int} (h : VP pot) (h0 : 0 < n) (h1 : n < 1073741824) : ∃ k pot', b_ldraw pot [.int n] = .ok (.int k, pot') ∧ 0 ≤ k ∧ k < n ∧ VP pot' := by
  obtain ⟨p0, p1, rfl, a, b, c⟩ := h
  by_cases q : 0 < p0
  · refine ⟨p0 % n, .lst [.int (p0 / n), .int p1], ?_, Int.emod_nonneg _ (by omega), Int.emod_lt_of_pos _ h0, _, _, rfl, Int.ediv_nonneg a (by omega), b, c⟩
    have e : divmodD (.int p0) (.int n) = some (.tup [.int (p0 / n), .int (p0 % n)]) := by
      show (if 0 < n ∧ n < 1073741824 then some (D.tup [.int (p0 / n), .int (p0 % n)]) else none) = _
      rw [if_pos ⟨h0, h1⟩]
    unfold b_ldraw runB s_ldraw s_ldraw_1
    simp [startB, q, e]
  · have b1 : 0 ≤ (p1 * 48271 + 11027) % 2147483587 := Int.emod_nonneg _ (by decide)
    have b2 : (p1 * 48271 + 11027) % 2147483587 < 2147483587 := Int.emod_lt_of_pos _ (by decide)
    have e1 : mulI (.int p1) (.int 48271) = some (.int (p1 * 48271)) := pmul ⟨by omega, by omega⟩
    have e2 : ∀ x : Int, modI (.int x) (.int 2147483587) = some (.int (x % 2147483587)) := fun x => pmod (by decide)
    have e3 : ∀ x : Int, modI (.int x) (.int 2147483489) = some (.int (x % 2147483489)) := fun x => pmod (by decide)
    have e4 : ∀ x : Int, fdivI (.int x) (.int 13) = some (.int (x / 13)) := fun x => pfdiv (by decide) (by decide)
    have e5 : ∀ x : Int, modI (.int x) (.int n) = some (.int (x % n)) := fun x => pmod h0
    have e6 : mulI (.int ((p1 * 48271 + 11027) % 2147483587)) (.int ((p1 * 48271 + 11027) % 2147483587)) = some (.int ((p1 * 48271 + 11027) % 2147483587 * ((p1 * 48271 + 11027) % 2147483587))) := pmul ⟨by omega, by omega⟩
    refine ⟨(((p1 * 48271 + 11027) % 2147483587 * ((p1 * 48271 + 11027) % 2147483587)) % 2147483489 / 13) % n, .lst [.int p0, .int ((p1 * 48271 + 11027) % 2147483587)], ?_, Int.emod_nonneg _ (by omega), Int.emod_lt_of_pos _ h0, _, _, rfl, a, b1, by omega⟩
    unfold b_ldraw runB s_ldraw s_ldraw_1
    simp [startB, q, e1, e2, e3, e4, e5, e6]
theorem atI_mem {α : Type} {l : List α} {k : Int} (h0 : 0 ≤ k) (h1 : k < l.length) : ∃ x, atI l k = some x ∧ x ∈ l := by
  obtain ⟨n, rfl⟩ := Int.eq_ofNat_of_zero_le h0
  have hn : n < l.length := by omega
  exact ⟨l[n], by rw [Dl.atI_nat]; simp [hn], List.getElem_mem _⟩
theorem pickF {pot : D} {ms : List Str} (h : VP pot) (hn : ms ≠ []) (hl : ms.length ≤ 1000) : ∃ x pot', b_lpick pot [eMs ms] = .ok (.str x, pot') ∧ x ∈ ms ∧ VP pot' := by
  have l0 : 0 < ms.length := List.length_pos_iff.mpr hn
  obtain ⟨k, pot', e, h0, h1, v⟩ := drawF (n := ms.length) h (by omega) (by omega)
  obtain ⟨x, ex, hx⟩ := atI_mem (l := ms.map D.str) (k := k) h0 (by rw [List.length_map]; exact h1)
  obtain ⟨y, hy, rfl⟩ := List.mem_map.mp hx
  refine ⟨y, pot', ?_, hy, v⟩
  unfold b_lpick runB s_lpick
  simp [startB, e, ex]
theorem potF {ns : List Int} {k : Nat} (hk : k ≤ 63) : ∃ pot, n_lpot [.scr ns, .int k] = .ok pot ∧ VP pot := by
  have key : ∀ cell : Int, 0 ≤ cell → ∃ pot, (eLst (aCons (eBin max2D (bOf (eC (.int 0))) (bOf (eBin subI (bVar 2) (bOf (eBin powI (bOf (eC (.int 10))) (bOf (eC (.int 18)))))))) (aCons (eBin addI (bOf (eBin modI (bOf (eBin mulI (bOf (eUn intD (bOf (eBin addI (bOf (eBin modI (bOf (eUn intD (bVar 2))) (bOf (eC (.int 2147483477))))) (bOf (eC (.int 13))))))) (bOf (eBin powI (bOf (eBin addI (bOf (eBin mulI (bOf (eC (.int 2))) (bVar 1))) (bOf (eC (.int 5))))) (bOf (eC (.int 3))))))) (bOf (eC (.int 2147483549))))) (bOf (eC (.int 1)))) aNil)))
      [some (.fz (.scr ns)), some (.fz (.int k)), some (.fz (.int cell))] = .ok (pot, [some (.fz (.scr ns)), some (.fz (.int k)), some (.fz (.int cell))]) ∧ VP pot := by
    intro cell h
    have e1 : powI (.int 10) (.int 18) = some (.int (10 ^ 18)) := rfl
    have e2 : ∀ x : Int, modI (.int x) (.int 2147483477) = some (.int (x % 2147483477)) := fun x => pmod (by decide)
    have e3 : ∀ x : Int, modI (.int x) (.int 2147483549) = some (.int (x % 2147483549)) := fun x => pmod (by decide)
    have e4 : mulI (.int 2) (.int k) = some (.int (2 * k)) := pmul ⟨by decide, by decide⟩
    have e5 : powI (.int (2 * k + 5)) (.int 3) = some (.int ((2 * k + 5) ^ 3)) := by
      show (if 0 ≤ (3 : Int) ∧ (3 : Int) ≤ 1000000 ∧ (2 * (k : Int) + 5).natAbs < 2 ^ 64 then some (D.int ((2 * (k : Int) + 5) ^ (3 : Int).toNat)) else none) = _
      rw [if_pos ⟨by decide, by decide, by omega⟩]
      rfl
    have b1 : 0 ≤ cell % 2147483477 := Int.emod_nonneg _ (by decide)
    have b2 : cell % 2147483477 < 2147483477 := Int.emod_lt_of_pos _ (by decide)
    have e6 : mulI (.int (cell % 2147483477 + 13)) (.int ((2 * k + 5) ^ 3)) = some (.int ((cell % 2147483477 + 13) * (2 * k + 5) ^ 3)) := pmul ⟨by omega, by omega⟩
    have b3 : 0 ≤ (cell % 2147483477 + 13) * (2 * (k : Int) + 5) ^ 3 % 2147483549 := Int.emod_nonneg _ (by decide)
    have b4 : (cell % 2147483477 + 13) * (2 * (k : Int) + 5) ^ 3 % 2147483549 < 2147483549 := Int.emod_lt_of_pos _ (by decide)
    refine ⟨.lst [.int (if cell - 10 ^ 18 > 0 then cell - 10 ^ 18 else 0), .int ((cell % 2147483477 + 13) * (2 * k + 5) ^ 3 % 2147483549 + 1)], ?_, _, _, rfl, ?_, by omega, by omega⟩
    · simp [e1, e2, e3, e4, e5, e6, max2D]
    · split <;> omega
  have e0 : mulI (.int 23) (.int k) = some (.int (23 * k)) := pmul ⟨by decide, by decide⟩
  have el : lenD (.scr ns) = some (.int ns.length) := rfl
  by_cases q : (k : Int) < ns.length
  · obtain ⟨x, ex, _⟩ := atI_mem (l := ns) (k := (k : Int)) (by omega) q
    have ei : ixG (.scr ns) (.int k) = some (.int x) := by
      show (atI ns (k : Int)).map D.int = _
      rw [ex]
      rfl
    obtain ⟨pot, e, v⟩ := key (if x < 0 then -x else x) (by split <;> omega)
    refine ⟨pot, ?_, v⟩
    unfold n_lpot Dl.runN s_lpot
    simp only [startE, pnseq, pset, pbin, pbof, pc, pbvar, psif, ptofe, pun, porU]
    simp [e0, el, q, ei, absD]
    simp at e
    simp [e]
  · obtain ⟨pot, e, v⟩ := key (23 * k + 7) (by omega)
    refine ⟨pot, ?_, v⟩
    unfold n_lpot Dl.runN s_lpot
    simp only [startE, pnseq, pset, pbin, pbof, pc, pbvar, psif, ptofe, pun, porU]
    simp [e0, el, q]
    simp at e
    simp [e]
end K10

set_option Elab.async false
set_option linter.all false
set_option maxRecDepth 100000
set_option maxHeartbeats 4000000
namespace K10
open PySem L2 Dl
theorem nm_a : Nm "a" := ⟨by kernel_rfl, by kernel_rfl, by decide +kernel, by decide +kernel⟩
theorem nm_m : Nm "m" := ⟨by kernel_rfl, by kernel_rfl, by decide +kernel, by decide +kernel⟩
theorem nm_b : Nm "b" := ⟨by kernel_rfl, by kernel_rfl, by decide +kernel, by decide +kernel⟩
theorem nm_n : Nm "n" := ⟨by kernel_rfl, by kernel_rfl, by decide +kernel, by decide +kernel⟩
def lists : List (List Str) := [["a", "m"], ["m"], ["b", "m", "a"], ["n", "a"], []]
def letters : List Str := ["a", "m", "b", "n"]
theorem lists_mem {ls : List Str} (h : ls ∈ lists) : ∀ x ∈ ls, x ∈ letters := by
  simp only [lists, List.mem_cons, List.not_mem_nil, or_false] at h
  rcases h with rfl | rfl | rfl | rfl | rfl <;> decide +kernel
theorem lists_nd {ls : List Str} (h : ls ∈ lists) : ls.Nodup := by
  simp only [lists, List.mem_cons, List.not_mem_nil, or_false] at h
  rcases h with rfl | rfl | rfl | rfl | rfl <;> decide +kernel
theorem lists_len {ls : List Str} (h : ls ∈ lists) : ls.length ≤ 4 := by
  simp only [lists, List.mem_cons, List.not_mem_nil, or_false] at h
  rcases h with rfl | rfl | rfl | rfl | rfl <;> decide +kernel
theorem letters_nm {x : Str} (h : x ∈ letters) : Nm x := by
  simp only [letters, List.mem_cons, List.not_mem_nil, or_false] at h
  rcases h with rfl | rfl | rfl | rfl
  · exact nm_a
  · exact nm_m
  · exact nm_b
  · exact nm_n
theorem vc_nil {ls : List Str} (h : ls ∈ lists) : VC ls [] := ⟨fun y hy => letters_nm (lists_mem h y hy), lists_nd h, (fun c hc => nomatch hc), List.nodup_nil⟩
theorem letters_len {ls : List Str} (nd : ls.Nodup) (h : ∀ x ∈ ls, x ∈ letters) : ls.length ≤ 4 := by
  have := List.Nodup.length_le_of_subset nd h
  exact this
def neB (one x : Str) : Bool := !decide (x = one)
def opts (ls : List Str) (one : Str) : List Str := (ls ++ [("day" : Str)]).filter (neB one)
theorem draft_1 {pot : D} (h : VP pot) : ∃ ls pot', s_ldraft_1 [some (.bo pot), none, none, none, none, none, none] = .nx [some (.bo pot'), some (.fz (eMs ls)), none, none, none, none, none] ∧ ls ∈ lists ∧ VP pot' := by
  obtain ⟨k, pot', e, h0, h1, v⟩ := drawF (n := 5) h (by decide) (by decide)
  obtain ⟨x, ex, hx⟩ := atI_mem (l := lists.map eMs) (k := k) h0 h1
  obtain ⟨ls, hl, rfl⟩ := List.mem_map.mp hx
  refine ⟨ls, pot', ?_, hl, v⟩
  have ex' : atI [D.lst [.str "a", .str "m"], .lst [.str "m"], .lst [.str "b", .str "m", .str "a"], .lst [.str "n", .str "a"], .lst []] k = some (eMs ls) := ex
  unfold s_ldraft_1
  simp [e, ex']
theorem draft_e {pot : D} {ls : List Str} {one : Str} {x2 x3 x5 : Option Sl} (hl : ls.length ≤ 4) :
    e_ldraft_1 [some (.bo pot), some (.fz (eMs ls)), x2, x3, some (.fz (.str one)), x5, none] = .ok (eMs (opts ls one), [some (.bo pot), some (.fz (eMs ls)), x2, x3, some (.fz (.str one)), x5, none]) := by
  unfold e_ldraft_1
  have q : ls.length + 1 ≤ 100000 := by omega
  rw [elc_of (l := ls ++ [("day" : Str)]) (f := D.str) (z := D.str) (p := neB one) (r0 := [some (.bo pot), some (.fz (eMs ls)), x2, x3, some (.fz (.str one)), x5, none])]
  · simp [restore, wipeE, opts]
  · simp [q]
  · simp; omega
  · intro x hx
    refine ⟨[some (.bo pot), some (.fz (eMs ls)), x2, x3, some (.fz (.str one)), x5, some (.fz (.str x))], [some (.bo pot), some (.fz (eMs ls)), x2, x3, some (.fz (.str one)), x5, some (.fz (.str x))], [some (.bo pot), some (.fz (eMs ls)), x2, x3, some (.fz (.str one)), x5, some (.fz (.str x))], ?_, ?_, ?_, ?_⟩
    · simp [wipeE]
    · simp [neB]
    · intro _
      simp [wipeE]
    · intro _
      simp [wipeE]
/-- one turn -/
theorem draft_b {pot : D} {ls : List Str} {cs : List Cl} {x3 x4 x5 : Option Sl} (h : VP pot) (hl : ls ∈ lists) (hn : ls ≠ []) (v : VC ls cs) (lc : cs.length ≤ 1000) :
    ∃ pot' cs' y4 y5, s_ldraft_3_b [some (.bo pot), some (.fz (eMs ls)), some (.ow (eCs cs)), x3, x4, x5, none] = .nx [some (.bo pot'), some (.fz (eMs ls)), some (.ow (eCs cs')), x3, y4, y5, none] ∧ VP pot' ∧ VC ls cs' ∧ cs'.length ≤ cs.length + 1 := by
  have l4 := lists_len hl
  obtain ⟨one, p1, e1, h1, v1⟩ := pickF h hn (by omega)
  have nd1 : Nm one := letters_nm (lists_mem hl one h1)
  have ne : opts ls one ≠ [] := by
    intro z
    have : ("day" : Str) ∈ opts ls one := List.mem_filter.mpr ⟨by simp, by simp [neB]; exact fun e => nd1.nd e.symm⟩
    rw [z] at this
    cases this
  have fl : (opts ls one).length ≤ 1000 := by
    unfold opts
    have := List.length_filter_le (neB one) (ls ++ [("day" : Str)])
    rw [List.length_append, List.length_singleton] at this
    omega
  have e2 := draft_e (pot := p1) (ls := ls) (one := one) (x2 := some (.ow (eCs cs))) (x3 := x3) (x5 := x5) l4
  obtain ⟨other, p2, e3, h3, v3⟩ := pickF v1 ne fl
  obtain ⟨k, p3, e4, k0, k1, v4⟩ := drawF (n := 5) v3 (by decide) (by decide)
  obtain ⟨t, p4, e5, t0, t1, v5⟩ := drawF (n := 2) v4 (by decide) (by decide)
  obtain ⟨m1, m2⟩ := List.mem_filter.mp h3
  have on : other ≠ one := by simpa [neB] using m2
  have od : other = "day" ∨ other ∈ ls := by
    rw [List.mem_append] at m1
    rcases m1 with m | m
    · exact .inr m
    · left; simpa using m
  have fin : ∀ c : Cl, COk ls c → ∃ cs', s_ldraft_3_4 [some (.bo p4), some (.fz (eMs ls)), some (.ow (eCs cs)), x3, some (.fz (.str one)), some (.fz (eCl c)), none] = .nx [some (.bo p4), some (.fz (eMs ls)), some (.ow (eCs cs')), x3, some (.fz (.str one)), some (.fz (eCl c)), none] ∧ VC ls cs' ∧ cs'.length ≤ cs.length + 1 := by
    intro c hc
    have hn := nin_csD (hc.okc v.nm) v.okc
    by_cases q : c ∈ cs
    · refine ⟨cs, ?_, v, by omega⟩
      rw [ninB_no q] at hn
      unfold s_ldraft_3_4
      simp [hn]
    · refine ⟨cs ++ [c], ?_, ⟨v.nm, v.nd, fun d hd => ?_, ?_⟩, by simp⟩
      · rw [ninB_yes q] at hn
        have ql : cs.length < 100000 := by omega
        unfold s_ldraft_3_4
        simp [hn, ql]
      · rcases List.mem_append.mp hd with z | z
        · exact v.ok d z
        · rw [List.mem_singleton.mp z]; exact hc
      · rw [List.nodup_append]
        exact ⟨v.nc, by simp, fun x hx y hy e => by
          rw [List.mem_singleton.mp hy] at e
          exact q (e ▸ hx)⟩
  by_cases q : t = 0
  · obtain ⟨cs', f1, f2, f3⟩ := fin (other, one, k - 2) ⟨od, .inr h1, on⟩
    refine ⟨p4, cs', some (.fz (.str one)), some (.fz (eCl (other, one, k - 2))), ?_, v5, f2, f3⟩
    unfold s_ldraft_3_b s_ldraft_3_3
    simp [e1, e2, e3, e4, e5, q]
    exact f1
  · obtain ⟨cs', f1, f2, f3⟩ := fin (one, other, k - 2) ⟨.inr h1, od, fun z => on z.symm⟩
    refine ⟨p4, cs', some (.fz (.str one)), some (.fz (eCl (one, other, k - 2))), ?_, v5, f2, f3⟩
    unfold s_ldraft_3_b s_ldraft_3_3
    simp [e1, e2, e3, e4, e5, q]
    exact f1
theorem irg1_ok {as : En → Res (List D × En)} {r r' : En} {n : Int} (h : as r = .ok ([.int n], r')) (h0 : -1000000 ≤ n) (h1 : n ≤ 1000000) : iRg1 as r = .ok (rngD 0 n, r') := by
  unfold iRg1
  rw [h]
  show (if -(2 ^ 62) ≤ n ∧ n < 2 ^ 62 then Res.ok (rngD 0 n, r') else .bad) = _
  rw [if_pos ⟨by omega, by omega⟩]
theorem draft_3 {pot : D} {ls : List Str} (h : VP pot) (hl : ls ∈ lists) :
    ∃ pot' cs y3 y4 y5, s_ldraft_3 [some (.bo pot), some (.fz (eMs ls)), some (.ow (eCs [])), none, none, none, none] = .nx [some (.bo pot'), some (.fz (eMs ls)), some (.ow (eCs cs)), y3, y4, y5, none] ∧ VP pot' ∧ VC ls cs ∧ cs.length ≤ 4 := by
  by_cases q : ls = []
  · subst q
    refine ⟨pot, [], none, none, none, ?_, h, vc_nil hl, by simp⟩
    have e : neD (eMs []) (.lst []) = some (.bl false) := (eqD_same (a := .lst []) (by decide +kernel) rfl).2
    unfold s_ldraft_3
    rw [psfor, irg1_ok (n := 0) (r' := [some (.bo pot), some (.fz (eMs [])), some (.ow (eCs [])), none, none, none, none]) (by simp [e]) (by decide) (by decide)]
    rfl
  · obtain ⟨k, p1, e1, k0, k1, v1⟩ := drawF (n := 5) h (by decide) (by decide)
    obtain ⟨n, rfl⟩ := Int.eq_ofNat_of_zero_le k0
    have hn : n < 5 := by omega
    have e0 := (eqD_diff (a := eMs ls) (b := .lst []) (fine_ms fun x hx => (letters_nm (lists_mem hl x hx)).ok).ok (by decide +kernel) strict_ms rfl (fun z => q (by simpa using z))).2
    obtain ⟨r', e, pot', cs, y3, y4, y5, rfl, w1, w2, w3⟩ := for_map (f := fun i : Nat => D.int (0 + (i : Int))) (g := gNm 3) (b := s_ldraft_3_b) (I := fun pre r => ∃ pot' cs y3 y4 y5, r = [some (.bo pot'), some (.fz (eMs ls)), some (Sl.ow (eCs cs)), y3, y4, y5, none] ∧ VP pot' ∧ VC ls cs ∧ cs.length ≤ pre.length) (List.range n)
      [some (.bo p1), some (.fz (eMs ls)), some (.ow (eCs [])), none, none, none, none] ⟨p1, [], none, none, none, rfl, v1, vc_nil hl, by simp⟩ (by
        rintro pre x suf r hf ⟨pot', cs, y3, y4, y5, rfl, w1, w2, w3⟩
        have hp : pre.length ≤ 5 := by
          have := congrArg List.length hf
          rw [List.length_range, List.length_append] at this
          omega
        obtain ⟨p2, cs2, z4, z5, b1, b2, b3, b4⟩ := draft_b (x3 := some (.fz (.int (0 + (x : Int))))) (x4 := y4) (x5 := y5) w1 hl q w2 (by omega)
        exact ⟨_, _, rfl, .inl b1, p2, cs2, _, _, _, rfl, b2, b3, by rw [List.length_append, List.length_singleton]; omega⟩)
    refine ⟨pot', cs, y3, y4, y5, ?_, w1, w2, by rw [List.length_range] at w3; omega⟩
    unfold s_ldraft_3
    rw [psfor, irg1_ok (n := n) (r' := [some (.bo p1), some (.fz (eMs ls)), some (.ow (eCs [])), none, none, none, none]) (by simp [e0, e1]) (by omega) (by omega)]
    exact e
theorem draftF {pot : D} (h : VP pot) : ∃ ls cs pot', b_ldraft pot [] = .ok (eDr ls cs, pot') ∧ VP pot' ∧ ls ∈ lists ∧ VC ls cs ∧ cs.length ≤ 4 := by
  obtain ⟨ls, p1, e1, hl, v1⟩ := draft_1 h
  obtain ⟨p2, cs, y3, y4, y5, e2, v2, v3, v4⟩ := draft_3 v1 hl
  refine ⟨ls, cs, p2, ?_, v2, hl, v3, v4⟩
  have e2' : s_ldraft_3 [some (.bo p1), some (.fz (eMs ls)), some (.ow (.lst [])), none, none, none, none] = .nx [some (.bo p2), some (.fz (eMs ls)), some (.ow (eCs cs)), y3, y4, y5, none] := e2
  unfold b_ldraft runB s_ldraft
  simp [startB, e1, e2', eDr]
end K10

set_option Elab.async false
set_option linter.all false
set_option maxRecDepth 100000
set_option maxHeartbeats 4000000
namespace K10
open PySem L2 Dl
theorem add_self {α : Type} [DecidableEq α] {a : List α} : addL a a = a := by
  unfold addL
  have : a.filter (ninB a) = [] := by
    rw [List.filter_eq_nil_iff]
    intro x hx
    rw [ninB_no hx]
    simp
  rw [this, List.append_nil]
theorem add_nil {α : Type} [DecidableEq α] {a : List α} : addL a [] = a := by simp [addL]
theorem nil_add {α : Type} [DecidableEq α] {a : List α} : addL [] a = a := by
  unfold addL
  rw [List.nil_append, List.filter_eq_self.mpr]
  intro x _
  exact ninB_yes (by simp)
theorem add_assoc {α : Type} [DecidableEq α] {a b c : List α} : addL (addL a b) c = addL a (addL b c) := by
  unfold addL
  rw [List.filter_append, List.filter_filter, List.append_assoc]
  congr 2
  apply List.filter_congr
  intro x _
  by_cases h1 : x ∈ a <;> by_cases h2 : x ∈ b <;> simp [ninB, h1, h2]
theorem add_comm_perm {α : Type} [DecidableEq α] {a b : List α} (h : a.Nodup) (k : b.Nodup) : (addL a b).Perm (addL b a) := by
  rw [List.perm_ext_iff_of_nodup (nodup_add h k) (nodup_add k h)]
  intro x
  rw [mem_add, mem_add]
  exact Or.comm
/-- a draft -/
structure Dr (ls : List Str) (cs : List Cl) : Prop where
  li : ls ∈ lists
  vc : VC ls cs
  ln : cs.length ≤ 4
theorem sub_len {ls : List Str} {cs : List Cl} (v : VC ls cs) (h : ∀ x ∈ ls, x ∈ letters) : ls.length ≤ 4 := letters_len v.nd h
theorem sub_add {a b : List Str} (h : ∀ x ∈ a, x ∈ letters) (k : ∀ x ∈ b, x ∈ letters) : ∀ x ∈ addL a b, x ∈ letters := fun x hx => (mem_add.mp hx).elim (h x) (k x)
theorem add_clen {a b : List Cl} {m n : Nat} (h : a.length ≤ m) (k : b.length ≤ n) : (addL a b).length ≤ m + n := by
  rw [List.length_append]
  have := List.length_filter_le (ninB a) b
  omega
theorem or_s {ms ns : List Str} {cs ds : List Cl} (h : VC ms cs) (k : VC ns ds) (hm : ∀ x ∈ ms, x ∈ letters) (hn : ∀ x ∈ ns, x ∈ letters) (l : cs.length + ds.length ≤ 40) :
    d_Calendar_or [eCal (sortS ms) cs, eCal (sortS ns) ds] = .ok (eCal (sortS (addL ms ns)) (addL cs ds)) := by
  have pm := add_perm (sortS_perm ms) (sortS_perm ns)
  have l1 := sub_len (h.add k) (sub_add hm hn)
  have l2 := sub_len k hn
  have lc := add_clen (a := cs) (b := ds) (Nat.le_refl _) (Nat.le_refl _)
  have o := orF h.sorted k.sorted (by rw [pm.length_eq]; omega) (by omega) (by rw [sort_len]; omega) (by omega)
  rw [sortS_eq pm] at o
  exact o
theorem eq_s {ms ns : List Str} {cs ds : List Cl} (h : VC ms cs) (k : VC ns ds) (l1 : cs.length ≤ 40) (l2 : ds.length ≤ 40) (pm : ms.Perm ns) (hc : cs.Perm ds) : d_Calendar_eq [eCal (sortS ms) cs, eCal (sortS ns) ds] = .ok (.bl true) :=
  eqF h.sorted k.sorted l1 l2 (sortS_eq pm) hc
theorem vc0 : VC [] [] := ⟨(fun _ h => nomatch h), List.nodup_nil, (fun _ h => nomatch h), List.nodup_nil⟩
theorem sort0 : sortS [] = [] := by simp [sortS]
theorem all3 : allD (.lst [.bl true, .bl true, .bl true]) = some (.bl true) := rfl
theorem right_b {pot : D} {drs chs : List D} {ls : List Str} {cs : List Cl} {k : Int} (h : Dr ls cs) (hd : atI drs k = some (eDr ls cs)) (hc : atI chs k = some (eCal (sortS ls) cs))
    (t0 : d_ltwo_right [.lst drs, .lst chs, .int k, .int 0] = .ok (.bl true)) (t1 : d_ltwo_right [.lst drs, .lst chs, .int k, .int 1] = .ok (.bl true)) (t2 : d_ltwo_right [.lst drs, .lst chs, .int k, .int 2] = .ok (.bl true)) :
    s_lright_3_b [some (.bo pot), some (.fz (.lst drs)), some (.fz (.lst chs)), none, some (.fz (.int k)), none, none, none, none] = .nx [some (.bo pot), some (.fz (.lst drs)), some (.fz (.lst chs)), none, some (.fz (.int k)), none, none, none, none] := by
  have hm := lists_mem h.li
  have ln := h.ln
  have o1 := or_s h.vc h.vc hm hm (by omega)
  rw [add_self, add_self] at o1
  have o2 := or_s h.vc vc0 hm (fun _ z => nomatch z) (by simp; omega)
  rw [add_nil, add_nil, sort0] at o2
  have o3 := or_s vc0 h.vc (fun _ z => nomatch z) hm (by simp; omega)
  rw [nil_add, nil_add, sort0] at o3
  have q := eq_s h.vc h.vc (by omega) (by omega) (List.Perm.refl _) (List.Perm.refl _)
  have n1 : b_Calendar_init_1 (.ins "Calendar" []) [.lst []] = .ok (.non, eCal [] []) := init_ok1
  have e : e_lright_2 [some (.bo pot), some (.fz (.lst drs)), some (.fz (.lst chs)), none, some (.fz (.int k)), none, none, none, none] = .ok (.lst [.bl true, .bl true, .bl true], [some (.bo pot), some (.fz (.lst drs)), some (.fz (.lst chs)), none, some (.fz (.int k)), none, none, none, none]) := by
    unfold e_lright_2 eLc
    rw [irg1_ok (n := 3) (r' := [some (.bo pot), some (.fz (.lst drs)), some (.fz (.lst chs)), none, some (.fz (.int k)), none, none, none, none]) (by simp) (by decide) (by decide)]
    have rg : rngD 0 3 = [.int 0, .int 1, .int 2] := rfl
    simp [rg, lcLoop, wipeE, noX, t0, t1, t2, restore]
  unfold s_lright_3_b s_lright_3_1 s_lright_3_2 s_lright_3_3
  simp [e, all3, hc, o1, q, n1, o2, o3]
theorem rightF {pot : D} (h : VP pot) : ∃ pot', b_lright pot [] = .ok (.bl true, pot') := by
  obtain ⟨l0, c0, p0, e0, v0, a0, b0, n0⟩ := draftF h
  obtain ⟨l1, c1, p1, e1, v1, a1, b1, n1⟩ := draftF v0
  obtain ⟨l2, c2, p2, e2, v2, a2, b2, n2⟩ := draftF v1
  have m0 := lists_mem a0
  have m1 := lists_mem a1
  have m2 := lists_mem a2
  have i0 := init_ok b0.nm b0.nd b0.ok b0.nc (by have := lists_len a0; omega) (by omega)
  have i1 := init_ok b1.nm b1.nd b1.ok b1.nc (by have := lists_len a1; omega) (by omega)
  have i2 := init_ok b2.nm b2.nd b2.ok b2.nc (by have := lists_len a2; omega) (by omega)
  refine ⟨p2, ?_⟩
  generalize hdr : [eDr l0 c0, eDr l1 c1, eDr l2 c2] = drs
  generalize hch : [eCal (sortS l0) c0, eCal (sortS l1) c1, eCal (sortS l2) c2] = chs
  have d0 : atI drs 0 = some (eDr l0 c0) := by rw [← hdr]; simp
  have d1 : atI drs 1 = some (eDr l1 c1) := by rw [← hdr]; simp
  have d2 : atI drs 2 = some (eDr l2 c2) := by rw [← hdr]; simp
  have k0 : atI chs 0 = some (eCal (sortS l0) c0) := by rw [← hch]; simp
  have k1 : atI chs 1 = some (eCal (sortS l1) c1) := by rw [← hch]; simp
  have k2 : atI chs 2 = some (eCal (sortS l2) c2) := by rw [← hch]; simp
  have tw : ∀ {ms ns : List Str} {cs ds : List Cl} {k j : Int}, Dr ms cs → Dr ns ds → atI drs k = some (eDr ms cs) → atI drs j = some (eDr ns ds) → atI chs k = some (eCal (sortS ms) cs) → atI chs j = some (eCal (sortS ns) ds) → d_ltwo_right [.lst drs, .lst chs, .int k, .int j] = .ok (.bl true) :=
    fun x y hd hd' hc hc' => twoF x.vc y.vc hd hd' hc hc' (sub_len (x.vc.add y.vc) (sub_add (lists_mem x.li) (lists_mem y.li))) (lists_len x.li) (lists_len y.li) x.ln y.ln
  have r0 : Dr l0 c0 := ⟨a0, b0, n0⟩
  have r1 : Dr l1 c1 := ⟨a1, b1, n1⟩
  have r2 : Dr l2 c2 := ⟨a2, b2, n2⟩
  have B0 := right_b (pot := p2) r0 d0 k0 (tw r0 r0 d0 d0 k0 k0) (tw r0 r1 d0 d1 k0 k1) (tw r0 r2 d0 d2 k0 k2)
  have B1 := right_b (pot := p2) r1 d1 k1 (tw r1 r0 d1 d0 k1 k0) (tw r1 r1 d1 d1 k1 k1) (tw r1 r2 d1 d2 k1 k2)
  have B2 := right_b (pot := p2) r2 d2 k2 (tw r2 r0 d2 d0 k2 k0) (tw r2 r1 d2 d1 k2 k1) (tw r2 r2 d2 d2 k2 k2)
  have x01 := b0.add b1
  have x10 := b1.add b0
  have x12 := b1.add b2
  have x012 := x01.add b2
  have s01 := sub_add m0 m1
  have s12 := sub_add m1 m2
  have c01 := add_clen n0 n1
  have c10 := add_clen n1 n0
  have c12 := add_clen n1 n2
  have c012 := add_clen c01 n2
  have M1 := mergedF b0 b1 (by have := lists_len a0; omega) (by omega) (by have := lists_len a1; omega) (by omega)
  have M2 := mergedF x01 b2 (by have := sub_len x01 s01; omega) (by omega) (by have := lists_len a2; omega) (by omega)
  have O1 := or_s b0 b1 m0 m1 (by omega)
  have O2 := or_s x01 b2 s01 m2 (by omega)
  have O3 := or_s b1 b2 m1 m2 (by omega)
  have O4 := or_s b0 x12 m0 s12 (by omega)
  rw [← add_assoc, ← add_assoc] at O4
  have O5 := or_s b1 b0 m1 m0 (by omega)
  have T := isToldF x012 (sub_len x012 (sub_add s01 m2)) (by omega)
  have T0 := isToldF b0 (lists_len a0) (by omega)
  have Q1 := eq_s x012 x012 (by omega) (by omega) (List.Perm.refl _) (List.Perm.refl _)
  have Q2 := eq_s x01 x10 (by omega) (by omega) (add_comm_perm b0.nd b1.nd) (add_comm_perm b0.nc b1.nc)
  have Z := (eqD_same (fine_cs x012.okc).ok strict_cs).2
  have E1 : e_lright_1 [some (.bo p2), some (.fz (.lst drs)), none, none, none, none, none, none, none] = .ok (.lst chs, [some (.bo p2), some (.fz (.lst drs)), none, none, none, none, none, none, none]) := by
    rw [← hdr, ← hch]
    unfold e_lright_1 eLc
    simp [lcLoop, wipeE, noX, restore, eDr, i0, i1, i2]
  have L3 : s_lright_3 [some (.bo p2), some (.fz (.lst drs)), some (.fz (.lst chs)), none, none, none, none, none, none] = .nx [some (.bo p2), some (.fz (.lst drs)), some (.fz (.lst chs)), none, some (.fz (.int 2)), none, none, none, none] := by
    unfold s_lright_3
    rw [psfor, irg1_ok (n := 3) (r' := [some (.bo p2), some (.fz (.lst drs)), some (.fz (.lst chs)), none, none, none, none, none, none]) (by simp) (by decide) (by decide)]
    have rg : rngD 0 3 = [.int 0, .int 1, .int 2] := rfl
    simp [rg, forD, B0, B1, B2]
  have hdr' : D.lst [eDr l0 c0, eDr l1 c1, eDr l2 c2] = D.lst drs := by rw [hdr]
  have dl : drs.length ≤ 1000 := by rw [← hdr]; simp
  have d0' : drs[0]? = some (eDr l0 c0) := by rw [← hdr]; rfl
  have d1' : drs[1]? = some (eDr l1 c1) := by rw [← hdr]; rfl
  have d2' : drs[2]? = some (eDr l2 c2) := by rw [← hdr]; rfl
  have k0' : chs[0]? = some (eCal (sortS l0) c0) := by rw [← hch]; rfl
  have k1' : chs[1]? = some (eCal (sortS l1) c1) := by rw [← hch]; rfl
  have k2' : chs[2]? = some (eCal (sortS l2) c2) := by rw [← hch]; rfl
  clear hdr' tw x01 x10 x12 x012 s01 s12 c01 c10 c12 c012 r0 r1 r2 B0 B1 B2
  generalize addL (addL l0 l1) l2 = L012 at *
  generalize addL (addL c0 c1) c2 = C012 at *
  generalize addL l0 l1 = L01 at *
  generalize addL c0 c1 = C01 at *
  generalize addL l1 l2 = L12 at *
  generalize addL c1 c2 = C12 at *
  generalize addL l1 l0 = L10 at *
  generalize addL c1 c0 = C10 at *
  unfold b_lright runB s_lright s_lright_5 s_lright_6 s_lright_7
  simp only [List.length_nil, Nat.zero_add, if_true, startB, List.map_nil, List.nil_append]
  simp [e0, e1, e2, hdr, dl, d0', d1', d2', k0', k1', k2', E1, L3, d0, d1, d2, k0, k1, k2, M1, M2, O1, O2, O3, O4, O5, T, T0, Q1, Q2, Z, clausesF]
theorem pure_law (ns : List Int) (hl : ns.length ≤ 63) : d_law [.scr ns] = .ok (.bl true) := by
  have el : lenD (.scr ns) = some (.int ns.length) := rfl
  generalize hn : (max 1 (min ns.length 4)) = n
  have n4 : n ≤ 4 := by omega
  have em : (if (if (4 : Int) < ns.length then (4 : Int) else ns.length) > 1 then (if (4 : Int) < ns.length then (4 : Int) else ns.length) else 1) = (n : Int) := by
    subst hn
    split <;> split <;> omega
  have e : e_law_1 [some (.fz (.scr ns)), none] = .ok (.lst ((List.range n).map fun _ => D.bl true), [some (.fz (.scr ns)), none]) := by
    unfold e_law_1
    rw [elc_all (l := List.range n) (f := fun i : Nat => D.int (0 + (i : Int))) (z := fun _ => D.bl true) (r0 := [some (.fz (.scr ns)), none])]
    · simp [restore, wipeE]
    · rw [irg1_ok (n := n) (r' := [some (.fz (.scr ns)), none]) ?_ (by omega) (by omega)]
      · rfl
      · simp [el, min2D, max2D]
        exact em
    · rw [List.length_range]; omega
    · intro i hi
      have hi' : i < n := List.mem_range.mp hi
      obtain ⟨pot, e1, v⟩ := potF (ns := ns) (k := i) (by omega)
      obtain ⟨pot', e2⟩ := rightF v
      refine ⟨[some (.fz (.scr ns)), some (.fz (.int (0 + (i : Int))))], [some (.fz (.scr ns)), some (.fz (.int (0 + (i : Int))))], ?_, ?_, ?_⟩
      · simp [wipeE]
      · simp [e1, e2]
      · simp [wipeE]
  have a : allD (.lst ((List.range n).map fun _ => D.bl true)) = some (.bl true) := by
    rw [all_bl (l := List.range n) (p := fun _ => true)]
    simp
  unfold d_law runF s_law
  simp [startE, e, a]
end K10

set_option Elab.async false
set_option linter.all false
set_option maxRecDepth 100000
set_option maxHeartbeats 0
namespace K10
open PySem PySem.Spec PyProof.Rows L2 Dl
abbrev R : PySem.W.OpenRow := PySem.W.OpenLaw.row PySem.Challenge.rw_letdays_k10_calendars_joined
abbrev hk : PySem.W.Hook := hookF 8 fa fn fb
def ob (s : PySem.W.SharedT) : He.AlD × Bool := obsFG 8 fa fn fb (HandSHeadRun.getT s)
theorem ob_eq (s : PySem.W.SharedT) : ob s = hk.obs s.abs := obsFG_eq (HandSHeadRun.getT_eq s)
def loose : List Str := ["_wall", "__name__", "LETTERS", "MOST_LETTERS", "ZERO", "is_integer", "is_list", "is_name", "is_moment", "is_clause", "is_clause_basics", "DaysError", "InvalidCalendar", "InvalidMoments", "InvalidClauses", "LimitError", "TooMany", "Calendar", "_law_pot", "_law_draw", "_law_pick", "_law_draft", "_law_merged", "_law_all", "_law_keeps", "_law_is_told", "_law_two_right", "_law_right"]
theorem run (w : World) : HandSHeadRun.RunEq R (PySem.W.view R.prog [31]) hk ob 20000 loose w := by
  intro os
  kernel_rfl
end K10

set_option Elab.async false
set_option linter.all false
set_option maxRecDepth 100000
set_option maxHeartbeats 0
open PySem PySem.W PySem.Calls PyProof.Rows
theorem K10.law_end (hp : ∀ ns : List Int, ns.length ≤ 63 → K10.d_law [.scr ns] = .ok (.bl true)) : PySem.Challenge.rw_letdays_k10_calendars_joined.Holds := by
  w_on; o_law
  refine HandSHeadRun.head_any (r := OpenLaw.row PySem.Challenge.rw_letdays_k10_calendars_joined) (q := view (OpenLaw.row PySem.Challenge.rw_letdays_k10_calendars_joined).prog [31]) (H := K10.hk) (ob := K10.ob) (M := 20000) (loose := K10.loose) (d := HandSHeadRun.topDef (OpenLaw.row PySem.Challenge.rw_letdays_k10_calendars_joined).prog 31) (kwd := []) K10.ob_eq
    (by kernel_rfl) (fun s => by kernel_rfl) K10.run (by kernel_rfl) (by kernel_rfl) (by kernel_rfl) (by rfl) (by first | assumption | decide +kernel) (by decide +kernel) ⟨rfl, rfl, rfl, rfl, rfl, by decide +kernel⟩ ?hw ?hc
  case hw => w_witness2
  case hc =>
    refine L2.walk_ofE (l := PySem.Challenge.rw_letdays_k10_calendars_joined) (n := 63) (k := 10) (x := "_law_script") (CX := L2.CX0) rfl (by decide) (by kernel_rfl) ⟨rfl, by decide, by decide⟩ ?F (fun _ _ _ _ z => z)
    intro w mg fa h Y G hmg0
    obtain ⟨K, KX, c⟩ := Y
    have V : K10.WD K mg := ⟨⟨h, KX, G⟩, c⟩
    have hmg : mg ("law" : PySem.Str) = some (.ref fa) := by
      have e : (HandSHeadRun.topDef (OpenLaw.row PySem.Challenge.rw_letdays_k10_calendars_joined).prog 31).name = ("law" : PySem.Str) := by kernel_rfl
      rw [← e]
      exact hmg0
    have e := hmg.symm.trans (V.glo 0 (x := "law") rfl)
    cases e
    obtain ⟨fd, F⟩ := V.d.def_ 23 (d := K10.df_23) rfl
    have b := L2.FunD.bindsA (ps := ["_law_script"]) F fun _ _ _ _ _ _ us hl => match us, hl with | [_], _ => rfl
    exact ⟨K, fd, fun vs H Q _ => Dl.spD K mg K10.d_law vs H Q fun _ _ _ => False, KX, fun s v => b s [v] rfl, fun H a ns hl _ hS => Dl.law_sp hp H a ns hl hS, fun base _ _ => Dl.law_fn F K10.sc_law (K10.ok_law V _)⟩
theorem PySem.Challenge.cw_letdays_k10_calendars_joined_holds : PySem.Challenge.rw_letdays_k10_calendars_joined.Holds := by
  exact K10.law_end K10.pure_law
