import PyProof.Rows.All
import Wide.All
import OpenK.AllK
import Wide.FinOn
import HandS.ForMost
import HandS.Exc
import HandS.ExcOwn
import HandS.CallSlots
import HandS.IsInst
import HandS.Walk
import HandS.Deep
import HandS.Defaults
import HandS.Ends
import KE.SortData
import HandS.ListItems
import PyProof.InstNe
import HandS.SlotsOwn
import KE.GoesEnum
import HandS.HeadHook4
import HandS.HeadEnd
import HandS.WordsExc
import HandS.Words
import HandS.MakeKw
import HandS.List
import HandS.More
import HandS.Style
import HandS.Zip
import HandS.TupAny
import PyProof.Rows.SetFrom
import PyProof.ReprRoads
import HandS.Iter
import HandS.DictComp
import KE.DataFind
import HandS.IterVal
import HandS.SetBool
import KE.KStateDown
import HandS.Head0
import HandS.Head1
import HandS.Head2
import PySem.Challenge.RW_letdays_k82_choices_cuts_and_takings_jud
set_option Elab.async false
set_option linter.all false
set_option maxRecDepth 100000
set_option maxHeartbeats 4000000
namespace Dl
open PySem L2

/-! ### data -/
inductive D where
  | non | bl (b : Bool) | int (i : Int) | str (x : Str)
  | lst (xs : List D) | tup (xs : List D)
  | dk (kvs : List (Key × D)) | dt (kvs : List (List Key × D))
  | ins (c : Str) (fs : List (Str × D))
  | ty (n : String) | gl (x : Str) | scr (ns : List Int)
  | own (d : D)

/-- slots: frozen, owned by the def, borrowed -/
inductive Sl where
  | fz (d : D) | ow (d : D) | bo (d : D)
def Sl.d : Sl → D
  | .fz d => d
  | .ow d => d
  | .bo d => d
def Sl.mine : Sl → Bool
  | .fz _ => false
  | _ => true
abbrev En := List (Option Sl)
inductive Res (α : Type) where
  | ok (a : α) | er (c : Str) (fs : List (Str × D)) (r : En) | bad
def Res.bind {α β : Type} : Res α → (α → Res β) → Res β
  | .ok a, k => k a
  | .er c fs r, _ => .er c fs r
  | .bad, _ => .bad
theorem bind_ok {α β : Type} (a : α) (k : α → Res β) : (Res.ok a).bind k = k a := rfl
theorem bind_bad {α β : Type} (k : α → Res β) : (Res.bad : Res α).bind k = .bad := rfl
theorem bind_er {α β : Type} (c : Str) (fs : List (Str × D)) (r : En) (k : α → Res β) : (Res.er c fs r : Res α).bind k = .er c fs r := rfl

section
variable (K : PySem.W.Frag) (mg : Str → Option Value)
mutual
def rep (F : Hp) : D → V → Prop
  | .non, v => v = .non
  | .bl b, v => v = .bl b
  | .int i, v => v = .int i
  | .str x, v => v = .str x
  | .lst ds, v => ∃ a xs, v = .ref a ∧ F a = some (.lst xs) ∧ repL F ds xs
  | .tup ds, v => ∃ a xs, v = .ref a ∧ SqT K F a xs ∧ repL F ds xs
  | .dk kvs, v => ∃ a ob ws, v = .ref a ∧ F a = some (.frz ob (.dK ws)) ∧ repK F kvs ws
  | .dt kvs, v => ∃ a ws, v = .ref a ∧ F a = some (.dT ws) ∧ repT F kvs ws
  | .ins c fs, v => ∃ a C dx ws, v = .ref a ∧ mg c = some (.ref C) ∧ F a = some (.ins C dx ws) ∧ repF F fs ws
  | .ty n, v => v = .ty n
  | .gl x, v => ∃ a, v = .ref a ∧ mg x = some (.ref a)
  | .scr ns, v => ∃ a, v = .ref a ∧ SqL K F a (ns.map V.int)
  | .own _, _ => False
def repL (F : Hp) : List D → List V → Prop
  | [], vs => vs = []
  | d :: ds, vs => ∃ w ws, vs = w :: ws ∧ rep F d w ∧ repL F ds ws
def repK (F : Hp) : List (Key × D) → List (Key × V) → Prop
  | [], vs => vs = []
  | (k, d) :: ds, vs => ∃ w ws, vs = (k, w) :: ws ∧ rep F d w ∧ repK F ds ws
def repT (F : Hp) : List (List Key × D) → List (List Key × V) → Prop
  | [], vs => vs = []
  | (k, d) :: ds, vs => ∃ w ws, vs = (k, w) :: ws ∧ rep F d w ∧ repT F ds ws
def repF (F : Hp) : List (Str × D) → List (Str × V) → Prop
  | [], vs => vs = []
  | (k, d) :: ds, vs => ∃ w ws, vs = (k, w) :: ws ∧ rep F d w ∧ repF F ds ws
end
end

section
variable {K : PySem.W.Frag} {mg : Str → Option Value} {F F' H H' : Hp}
theorem Rd.mono {a : Addr} {u : HO} (e : Same F F') (h : Rd F a u) : Rd F' a u := by
  rcases h with h | ⟨o, h⟩
  · exact .inl (e _ _ h)
  · exact .inr ⟨o, e _ _ h⟩
theorem sqT_mono {a : Addr} {xs : List V} (e : Same F F') (h : SqT K F a xs) : SqT K F' a xs := by
  rcases h with h | h
  · exact .inl (Rd.mono e h)
  · exact .inr h
mutual
theorem rep_mono (e : Same F F') : ∀ (d : D) (v : V), rep K mg F d v → rep K mg F' d v
  | .non, _, h => h
  | .bl _, _, h => h
  | .int _, _, h => h
  | .str _, _, h => h
  | .lst ds, v, ⟨a, xs, e1, h, r⟩ => ⟨a, xs, e1, e _ _ h, repL_mono e ds xs r⟩
  | .tup ds, v, ⟨a, xs, e1, h, r⟩ => ⟨a, xs, e1, sqT_mono e h, repL_mono e ds xs r⟩
  | .dk ds, v, ⟨a, ob, xs, e1, h, r⟩ => ⟨a, ob, xs, e1, e _ _ h, repK_mono e ds xs r⟩
  | .dt ds, v, ⟨a, xs, e1, h, r⟩ => ⟨a, xs, e1, e _ _ h, repT_mono e ds xs r⟩
  | .ins c fs, v, ⟨a, C, dx, ws, e1, m, h, r⟩ => ⟨a, C, dx, ws, e1, m, e _ _ h, repF_mono e fs ws r⟩
  | .ty _, _, h => h
  | .gl _, _, h => h
  | .scr ns, _, ⟨a, e1, h⟩ => ⟨a, e1, Same.seq e h⟩
  | .own _, _, h => h
theorem repL_mono (e : Same F F') : ∀ (ds : List D) (vs : List V), repL K mg F ds vs → repL K mg F' ds vs
  | [], _, h => h
  | d :: ds, _, ⟨w, ws, e1, h, r⟩ => ⟨w, ws, e1, rep_mono e d w h, repL_mono e ds ws r⟩
theorem repK_mono (e : Same F F') : ∀ (ds : List (Key × D)) (vs : List (Key × V)), repK K mg F ds vs → repK K mg F' ds vs
  | [], _, h => h
  | (k, d) :: ds, _, ⟨w, ws, e1, h, r⟩ => ⟨w, ws, e1, rep_mono e d w h, repK_mono e ds ws r⟩
theorem repT_mono (e : Same F F') : ∀ (ds : List (List Key × D)) (vs : List (List Key × V)), repT K mg F ds vs → repT K mg F' ds vs
  | [], _, h => h
  | (k, d) :: ds, _, ⟨w, ws, e1, h, r⟩ => ⟨w, ws, e1, rep_mono e d w h, repT_mono e ds ws r⟩
theorem repF_mono (e : Same F F') : ∀ (ds : List (Str × D)) (vs : List (Str × V)), repF K mg F ds vs → repF K mg F' ds vs
  | [], _, h => h
  | (k, d) :: ds, _, ⟨w, ws, e1, h, r⟩ => ⟨w, ws, e1, rep_mono e d w h, repF_mono e ds ws r⟩
end
end

/-! ### owned things, what is looked at -/
section
variable (K : PySem.W.Frag) (mg : Str → Option Value)
/-- a field's own object: its parts are frozen -/
def ownB (F H : Hp) (q : Addr) : D → Prop
  | .lst ds => ∃ xs, H q = some (.lst xs) ∧ repL K mg F ds xs
  | .dk kvs => ∃ ws, H q = some (.dK ws) ∧ repK K mg F kvs ws
  | _ => False
def fldR (F H : Hp) : D → V → Prop
  | .own d, v => ∃ q, v = .ref q ∧ ownB K mg F H q d
  | d, v => rep K mg F d v
def repO (F H : Hp) : List (Str × D) → List (Str × V) → Prop
  | [], vs => vs = []
  | (k, d) :: ds, vs => ∃ w ws, vs = (k, w) :: ws ∧ fldR K mg F H d w ∧ repO F H ds ws
/-- an owned object: its parts are frozen, or its own -/
def ownAt (F H : Hp) (p : Addr) : D → Prop
  | .lst ds => ∃ xs, H p = some (.lst xs) ∧ repL K mg F ds xs
  | .dk kvs => ∃ ws, H p = some (.dK ws) ∧ repK K mg F kvs ws
  | .dt kvs => ∃ ws, H p = some (.dT ws) ∧ repT K mg F kvs ws
  | .ins c fs => ∃ C dx ws, mg c = some (.ref C) ∧ H p = some (.ins C dx ws) ∧ repO K mg F H fs ws
  | _ => False
/-- an owned object whose parts are frozen -/
def ownS (F H : Hp) (p : Addr) : D → Prop
  | .lst ds => ∃ xs, H p = some (.lst xs) ∧ repL K mg F ds xs
  | .dk kvs => ∃ ws, H p = some (.dK ws) ∧ repK K mg F kvs ws
  | .dt kvs => ∃ ws, H p = some (.dT ws) ∧ repT K mg F kvs ws
  | .ins c fs => ∃ C dx ws, mg c = some (.ref C) ∧ H p = some (.ins C dx ws) ∧ repF K mg F fs ws
  | _ => False
def fldV (F : Hp) : D → V → Prop
  | .own _, _ => True
  | d, v => rep K mg F d v
def repV (F : Hp) : List (Str × D) → List (Str × V) → Prop
  | [], vs => vs = []
  | (k, d) :: ds, vs => ∃ w ws, vs = (k, w) :: ws ∧ fldV K mg F d w ∧ repV F ds ws
/-- what a reading operation sees: the outermost object in H, its parts frozen -/
def vw (F H : Hp) : D → V → Prop
  | .lst ds, v => ∃ a xs, v = .ref a ∧ H a = some (.lst xs) ∧ repL K mg F ds xs
  | .tup ds, v => ∃ a xs, v = .ref a ∧ SqT K H a xs ∧ repL K mg F ds xs
  | .dk kvs, v => ∃ a ws, v = .ref a ∧ Rd H a (.dK ws) ∧ repK K mg F kvs ws
  | .dt kvs, v => ∃ a ws, v = .ref a ∧ H a = some (.dT ws) ∧ repT K mg F kvs ws
  | .ins c fs, v => ∃ a C dx ws, v = .ref a ∧ mg c = some (.ref C) ∧ H a = some (.ins C dx ws) ∧ repV K mg F fs ws
  | .scr ns, v => ∃ a, v = .ref a ∧ SqL K H a (ns.map V.int)
  | d, v => rep K mg F d v
end
/-- the addresses of an owned object -/
def fldQ : D → V → List Addr
  | .own _, .ref q => [q]
  | _, _ => []
def fpF : List (Str × D) → List (Str × V) → List Addr
  | (_, d) :: fs, (_, w) :: ws => fldQ d w ++ fpF fs ws
  | _, _ => []
def fp (H : Hp) (p : Addr) (d : D) : List Addr := match d with
  | .ins _ fs => (match H p with
    | some (.ins _ _ ws) => p :: fpF fs ws
    | _ => [p])
  | _ => [p]
def isOwn : D → Bool
  | .own _ => true
  | _ => false
def noOwn : D → Bool
  | .ins _ fs => fs.all fun q => !isOwn q.2
  | .own _ => false
  | _ => true
section
variable {K : PySem.W.Frag} {mg : Str → Option Value} {F F' H H' : Hp}
theorem repV_of : ∀ {fs : List (Str × D)} {ws : List (Str × V)}, repF K mg F fs ws → repV K mg F fs ws
  | [], _, h => h
  | (k, d) :: fs, _, ⟨w, ws, e, h1, h2⟩ => ⟨w, ws, e, by
    cases d with
    | own d => exact True.intro
    | _ => exact h1, repV_of h2⟩
theorem repV_own : ∀ {fs : List (Str × D)} {ws : List (Str × V)}, repO K mg F H fs ws → repV K mg F fs ws
  | [], _, h => h
  | (k, d) :: fs, _, ⟨w, ws, e, h1, h2⟩ => ⟨w, ws, e, by
    cases d with
    | own d => exact True.intro
    | _ => exact h1, repV_own h2⟩
theorem repO_of : ∀ {fs : List (Str × D)} {ws : List (Str × V)}, repF K mg F fs ws → repO K mg F H fs ws
  | [], _, h => h
  | (k, d) :: fs, _, ⟨w, ws, e, h1, h2⟩ => ⟨w, ws, e, by
    cases d with
    | own d => exact h1.elim
    | _ => exact h1, repO_of h2⟩
theorem repF_of : ∀ {fs : List (Str × D)} {ws : List (Str × V)}, repO K mg F H fs ws → (fs.all fun q => !isOwn q.2) = true → repF K mg F fs ws
  | [], _, h, _ => h
  | (k, d) :: fs, _, ⟨w, ws, e, h1, h2⟩, n => by
    rw [List.all_cons, Bool.and_eq_true] at n
    refine ⟨w, ws, e, ?_, repF_of h2 n.2⟩
    cases d with
    | own d => cases n.1
    | _ => exact h1
theorem fpF_none : ∀ {fs : List (Str × D)} {ws : List (Str × V)}, (fs.all fun q => !isOwn q.2) = true → fpF fs ws = []
  | [], _, _ => by unfold fpF; rfl
  | (k, d) :: fs, [], _ => by unfold fpF; rfl
  | (k, d) :: fs, (k', w) :: ws, n => by
    rw [List.all_cons, Bool.and_eq_true] at n
    unfold fpF
    rw [fpF_none n.2, List.append_nil]
    cases d with
    | own d => cases n.1
    | _ => rfl
theorem fp_one {p : Addr} {d : D} (h : noOwn d = true) : fp H p d = [p] := by
  cases d with
  | ins c fs =>
    have h' : (fs.all fun q => !isOwn q.2) = true := h
    unfold fp
    simp only
    split
    · rw [fpF_none h']
    · rfl
  | _ => rfl
theorem fp_head {p : Addr} {d : D} : p ∈ fp H p d := by
  unfold fp
  split
  · split <;> simp
  · simp
theorem fp_eq {p : Addr} {d : D} (h : H' p = H p) : fp H' p d = fp H p d := by
  unfold fp
  rw [h]
theorem repO_mono (e : Same F F') : ∀ {fs : List (Str × D)} {ws : List (Str × V)}, (∀ a ∈ fpF fs ws, H' a = H a) → repO K mg F H fs ws → repO K mg F' H' fs ws
  | [], _, _, h => h
  | (k, d) :: fs, _, kH, ⟨w, ws, e1, h1, h2⟩ => by
    subst e1
    unfold fpF at kH
    refine ⟨w, ws, rfl, ?_, repO_mono e (fun a ha => kH a (List.mem_append_right _ ha)) h2⟩
    cases d with
    | own d =>
      obtain ⟨q, rfl, h3⟩ := h1
      have kq : H' q = H q := kH q (by simp [fldQ])
      refine ⟨q, rfl, ?_⟩
      cases d with
      | lst ds =>
        obtain ⟨xs, h4, h5⟩ := h3
        exact ⟨xs, kq.trans h4, repL_mono e _ _ h5⟩
      | dk ds =>
        obtain ⟨xs, h4, h5⟩ := h3
        exact ⟨xs, kq.trans h4, repK_mono e _ _ h5⟩
      | _ => exact h3.elim
    | _ => exact rep_mono e _ _ h1
theorem repO_live : ∀ {fs : List (Str × D)} {ws : List (Str × V)}, repO K mg F H fs ws → ∀ a ∈ fpF fs ws, ∃ o, H a = some o
  | [], _, _, a, ha => by
    unfold fpF at ha
    cases ha
  | (k, d) :: fs, _, ⟨w, ws, e1, h1, h2⟩, a, ha => by
    subst e1
    unfold fpF at ha
    rcases List.mem_append.mp ha with z | z
    · cases d with
      | own d =>
        obtain ⟨q, rfl, h3⟩ := h1
        have e2 : a = q := by simpa [fldQ] using z
        subst e2
        cases d with
        | lst ds =>
          obtain ⟨xs, h4, _⟩ := h3
          exact ⟨_, h4⟩
        | dk ds =>
          obtain ⟨xs, h4, _⟩ := h3
          exact ⟨_, h4⟩
        | _ => exact h3.elim
      | _ =>
        unfold fldQ at z
        cases z
    · exact repO_live h2 a z
theorem vw_of (e : Same F H) : ∀ (d : D) (v : V), rep K mg F d v → vw K mg F H d v
  | .non, _, h => h
  | .bl _, _, h => h
  | .int _, _, h => h
  | .str _, _, h => h
  | .lst ds, v, ⟨a, xs, e1, h, r⟩ => ⟨a, xs, e1, e _ _ h, r⟩
  | .tup ds, v, ⟨a, xs, e1, h, r⟩ => ⟨a, xs, e1, sqT_mono e h, r⟩
  | .dk ds, v, ⟨a, ob, xs, e1, h, r⟩ => ⟨a, xs, e1, .inr ⟨ob, e _ _ h⟩, r⟩
  | .dt ds, v, ⟨a, xs, e1, h, r⟩ => ⟨a, xs, e1, e _ _ h, r⟩
  | .ins c fs, v, ⟨a, C, dx, ws, e1, m, h, r⟩ => ⟨a, C, dx, ws, e1, m, e _ _ h, repV_of r⟩
  | .ty _, _, h => h
  | .gl _, _, h => h
  | .scr ns, _, ⟨a, e1, h⟩ => ⟨a, e1, Same.seq e h⟩
  | .own _, _, h => h
theorem vw_own {p : Addr} : ∀ (d : D), ownAt K mg F H p d → vw K mg F H d (.ref p)
  | .lst ds, ⟨xs, h, r⟩ => ⟨p, xs, rfl, h, r⟩
  | .dk ds, ⟨xs, h, r⟩ => ⟨p, xs, rfl, .inl h, r⟩
  | .dt ds, ⟨xs, h, r⟩ => ⟨p, xs, rfl, h, r⟩
  | .ins c fs, ⟨C, dx, ws, m, h, r⟩ => ⟨p, C, dx, ws, rfl, m, h, repV_own r⟩
/-- an owned object frozen -/
def frzAt (F H : Hp) (p : Addr) : Hp := fun a => if a = p then H p else F a
theorem frzAt_same {p : Addr} (hp : F p = none) : Same F (frzAt F H p) := fun a o e => by
  unfold frzAt
  rw [if_neg (ne_of_none e hp)]
  exact e
theorem frzAt_in {p : Addr} (e : Same F H) : Same (frzAt F H p) H := fun a o h => by
  unfold frzAt at h
  by_cases q : a = p
  · rw [if_pos q] at h
    rw [q]
    exact h
  · rw [if_neg q] at h
    exact e _ _ h
theorem frzAt_at {p : Addr} : frzAt F H p p = H p := by
  unfold frzAt
  exact if_pos rfl
theorem frzAt_ne {p a : Addr} (h : a ≠ p) : frzAt F H p a = F a := by
  unfold frzAt
  exact if_neg h
theorem rep_frz {p : Addr} {ds : List D} (hp : F p = none) : ownAt K mg F H p (.lst ds) → rep K mg (frzAt F H p) (.lst ds) (.ref p)
  | ⟨xs, h, r⟩ => ⟨p, xs, rfl, by rw [frzAt_at]; exact h, repL_mono (frzAt_same hp) _ _ r⟩
theorem own_mono {p : Addr} (e : Same F F') : ∀ (d : D), (∀ a ∈ fp H p d, H' a = H a) → ownAt K mg F H p d → ownAt K mg F' H' p d
  | .lst ds, k, ⟨xs, h, r⟩ => ⟨xs, (k p fp_head).trans h, repL_mono e _ _ r⟩
  | .dk ds, k, ⟨xs, h, r⟩ => ⟨xs, (k p fp_head).trans h, repK_mono e _ _ r⟩
  | .dt ds, k, ⟨xs, h, r⟩ => ⟨xs, (k p fp_head).trans h, repT_mono e _ _ r⟩
  | .ins c fs, k, ⟨C, dx, ws, m, h, r⟩ => ⟨C, dx, ws, m, (k p fp_head).trans h, repO_mono e (fun a ha => k a (by unfold fp; simp only [h]; exact List.mem_cons_of_mem _ ha)) r⟩
theorem repF_no : ∀ {fs : List (Str × D)} {ws : List (Str × V)}, repF K mg F fs ws → (fs.all fun q => !isOwn q.2) = true
  | [], _, _ => rfl
  | (k, d) :: fs, _, ⟨w, ws, e, h1, h2⟩ => by
    rw [List.all_cons, repF_no h2, Bool.and_true]
    cases d with
    | own d => exact h1.elim
    | _ => rfl
theorem ownS_at {p : Addr} : ∀ {d : D}, ownS K mg F H p d → ownAt K mg F H p d
  | .lst ds, h => h
  | .dk ds, h => h
  | .dt ds, h => h
  | .ins c fs, ⟨C, dx, ws, m, h, r⟩ => ⟨C, dx, ws, m, h, repO_of r⟩
theorem ownS_no {p : Addr} : ∀ {d : D}, ownS K mg F H p d → noOwn d = true
  | .lst ds, h => rfl
  | .dk ds, h => rfl
  | .dt ds, h => rfl
  | .ins c fs, ⟨C, dx, ws, m, h, r⟩ => repF_no r
theorem ownS_of {p : Addr} : ∀ {d : D}, noOwn d = true → ownAt K mg F H p d → ownS K mg F H p d
  | .lst ds, _, h => h
  | .dk ds, _, h => h
  | .dt ds, _, h => h
  | .ins c fs, n, ⟨C, dx, ws, m, h, r⟩ => ⟨C, dx, ws, m, h, repF_of r n⟩
theorem own_there {p : Addr} : ∀ (d : D), ownAt K mg F H p d → ∃ o, H p = some o
  | .lst ds, ⟨xs, h, r⟩ => ⟨_, h⟩
  | .dk ds, ⟨xs, h, r⟩ => ⟨_, h⟩
  | .dt ds, ⟨xs, h, r⟩ => ⟨_, h⟩
  | .ins c fs, ⟨C, dx, ws, m, h, r⟩ => ⟨_, h⟩
theorem fp_live {p : Addr} : ∀ (d : D), ownAt K mg F H p d → ∀ a ∈ fp H p d, ∃ o, H a = some o
  | .ins c fs, ⟨C, dx, ws, m, h, r⟩, a, ha => by
    unfold fp at ha
    simp only [h] at ha
    rcases List.mem_cons.mp ha with z | z
    · exact ⟨_, by rw [z]; exact h⟩
    · exact repO_live r a z
  | .lst ds, ho, a, ha => by
    rw [List.mem_singleton.mp (show a ∈ [p] from ha)]
    exact own_there _ ho
  | .dk ds, ho, a, ha => by
    rw [List.mem_singleton.mp (show a ∈ [p] from ha)]
    exact own_there _ ho
  | .dt ds, ho, a, ha => by
    rw [List.mem_singleton.mp (show a ∈ [p] from ha)]
    exact own_there _ ho
end

/-! ### the state of a def: its slots, the frozen part F of the heap H, the entry -/
structure Bg where
  F : Hp
  H : Hp
  bs : List Addr
section
variable (K : PySem.W.Frag) (mg : Str → Option Value)
def slOk (B : Bg) (F H : Hp) (ov : Option (Option V)) : Sl → Prop
  | .fz d => ∃ v, ov = some (some v) ∧ rep K mg F d v
  | .ow d => ∃ p, ov = some (some (.ref p)) ∧ (∀ a ∈ fp H p d, F a = none ∧ B.H a = none ∧ a ∉ B.bs) ∧ (fp H p d).Nodup ∧ ownAt K mg F H p d
  | .bo d => ∃ p, ov = some (some (.ref p)) ∧ B.bs.head? = some p ∧ (∀ a ∈ fp H p d, F a = none ∧ (a ∈ B.bs ∨ B.H a = none)) ∧ (fp H p d).Nodup ∧ ownAt K mg F H p d
structure Rel (B : Bg) (F H : Hp) (r : En) (σ : St) : Prop where
  fh : Same F H
  f0 : Same B.F F
  keep : ∀ a o, a ∉ B.bs → B.H a = some o → H a = some o
  fresh : ∀ a, B.F a = none → B.H a ≠ none → F a = none
  live : ∀ a ∈ B.bs, H a ≠ none ∧ B.H a ≠ none
  len : r.length = σ.length
  slot : ∀ (i : Nat) (s : Sl), r[i]? = some (some s) → slOk K mg B F H σ[i]? s
  apart : ∀ (i j : Nat) (s t : Sl) (p q : Addr), i ≠ j → r[i]? = some (some s) → r[j]? = some (some t) → s.mine = true → t.mine = true → σ[i]? = some (some (.ref p)) → σ[j]? = some (some (.ref q)) → ∀ a ∈ fp H p s.d, a ∉ fp H q t.d
end
section
variable {K : PySem.W.Frag} {mg : Str → Option Value} {B : Bg} {F F' H H' : Hp} {r : En} {σ : St}
theorem slOk.mono {ov : Option (Option V)} (eF : Same F F') : ∀ {s : Sl}, (s.mine = true → ∀ p, ov = some (some (.ref p)) → ∀ a ∈ fp H p s.d, H' a = H a ∧ (F a = none → F' a = none)) → slOk K mg B F H ov s → slOk K mg B F' H' ov s
  | .fz d, _, ⟨v, e, h⟩ => ⟨v, e, rep_mono eF _ _ h⟩
  | .ow d, kH, ⟨p, e, hA, nd, h⟩ => by
    have k := kH rfl p e
    have ef : fp H' p d = fp H p d := fp_eq (k p fp_head).1
    refine ⟨p, e, fun a ha => ?_, by rw [ef]; exact nd, own_mono eF d (fun a ha => (k a ha).1) h⟩
    rw [ef] at ha
    obtain ⟨h1, h2, h3⟩ := hA a ha
    exact ⟨(k a ha).2 h1, h2, h3⟩
  | .bo d, kH, ⟨p, e, hb, hA, nd, h⟩ => by
    have k := kH rfl p e
    have ef : fp H' p d = fp H p d := fp_eq (k p fp_head).1
    refine ⟨p, e, hb, fun a ha => ?_, by rw [ef]; exact nd, own_mono eF d (fun a ha => (k a ha).1) h⟩
    rw [ef] at ha
    obtain ⟨h1, h2⟩ := hA a ha
    exact ⟨(k a ha).2 h1, h2⟩
/-- a slot's own object -/
theorem Rel.own (R : Rel K mg B F H r σ) {i : Nat} {s : Sl} (h : r[i]? = some (some s)) (m : s.mine = true) : ∃ p, σ[i]? = some (some (.ref p)) ∧ (∀ a ∈ fp H p s.d, F a = none ∧ (a ∈ B.bs ∨ B.H a = none)) ∧ (fp H p s.d).Nodup ∧ ownAt K mg F H p s.d := by
  have q := R.slot i s h
  cases s with
  | fz d => cases m
  | ow d =>
    obtain ⟨p, e, hA, nd, h'⟩ := q
    exact ⟨p, e, fun a ha => ⟨(hA a ha).1, .inr (hA a ha).2.1⟩, nd, h'⟩
  | bo d =>
    obtain ⟨p, e, _, hA, nd, h'⟩ := q
    exact ⟨p, e, hA, nd, h'⟩
theorem Rel.own_at (R : Rel K mg B F H r σ) {i : Nat} {s : Sl} {p : Addr} (h : r[i]? = some (some s)) (m : s.mine = true) (e : σ[i]? = some (some (.ref p))) : (∀ a ∈ fp H p s.d, F a = none ∧ (a ∈ B.bs ∨ B.H a = none)) ∧ (fp H p s.d).Nodup ∧ ownAt K mg F H p s.d := by
  obtain ⟨p', e', h1, h2, h3⟩ := R.own h m
  rw [e] at e'
  cases e'
  exact ⟨h1, h2, h3⟩
/-- the heap has grown -/
theorem Rel.grow (R : Rel K mg B F H r σ) (eH : Same H H') (eF : Same F F') (fh : Same F' H') (fr : ∀ a, F a = none → H a ≠ none → F' a = none) : Rel K mg B F' H' r σ where
  fh := fh
  f0 := R.f0.trans eF
  keep := fun a o hb h => eH _ _ (R.keep a o hb h)
  fresh := fun a h1 h2 => by
    have h3 := R.fresh a h1 h2
    by_cases hb : a ∈ B.bs
    · exact fr a h3 (R.live a hb).1
    · cases q : B.H a with
      | none => exact absurd q h2
      | some o => exact fr a h3 (by rw [R.keep a o hb q]; exact fun z => nomatch z)
  live := fun a hb => by
    obtain ⟨h1, h2⟩ := R.live a hb
    refine ⟨?_, h2⟩
    cases q : H a with
    | none => exact absurd q h1
    | some o => rw [eH _ _ q]; exact fun z => nomatch z
  len := R.len
  slot := fun i s h => (R.slot i s h).mono eF fun m p e a ha => by
    obtain ⟨o, ho⟩ := fp_live s.d (R.own_at h m e).2.2 a ha
    exact ⟨by rw [ho]; exact eH _ _ ho, fun z => fr a z (by rw [ho]; exact fun z => nomatch z)⟩
  apart := fun i j s t p q ne hi hj ms mt ei ej a ha => by
    obtain ⟨o1, h1⟩ := own_there s.d (R.own_at hi ms ei).2.2
    obtain ⟨o2, h2⟩ := own_there t.d (R.own_at hj mt ej).2.2
    rw [fp_eq ((eH _ _ h1).trans h1.symm)] at ha
    rw [fp_eq ((eH _ _ h2).trans h2.symm)]
    exact R.apart i j s t p q ne hi hj ms mt ei ej a ha
/-- a new object is laid, and is frozen at once -/
theorem same_new {p : Addr} {o : HO} (h : H p = none) : Same H (upd H p o) := fun a u e => by
  rw [upd_ne (ne_of_none e h)]
  exact e
/-- what an object becomes when it is frozen: a dict stands with its object -/
def okSeal (u o : HO) : Prop := match u with
  | .dK kvs => ∃ ob, o = .frz ob (.dK kvs)
  | _ => o = u
theorem rep_seal {p : Addr} {u o : HO} (hp : F p = none) (hu : H p = some u) (k : okSeal u o) : ∀ (d : D), noOwn d = true → ownAt K mg F H p d → rep K mg (upd F p o) d (.ref p)
  | .lst ds, _, ⟨xs, h, r⟩ => by
    rw [h] at hu
    cases hu
    cases (show o = _ from k)
    exact ⟨p, xs, rfl, upd_same, repL_mono (same_new hp) _ _ r⟩
  | .dk ds, _, ⟨xs, h, r⟩ => by
    rw [h] at hu
    cases hu
    obtain ⟨ob, rfl⟩ := k
    exact ⟨p, ob, xs, rfl, upd_same, repK_mono (same_new hp) _ _ r⟩
  | .dt ds, _, ⟨xs, h, r⟩ => by
    rw [h] at hu
    cases hu
    cases (show o = _ from k)
    exact ⟨p, xs, rfl, upd_same, repT_mono (same_new hp) _ _ r⟩
  | .ins c fs, n, ⟨C, dx, ws, m, h, r⟩ => by
    rw [h] at hu
    cases hu
    cases (show o = _ from k)
    exact ⟨p, C, dx, ws, rfl, m, upd_same, repF_mono (same_new hp) _ _ (repF_of r n)⟩
theorem Rel.newF {p : Addr} {o : HO} (R : Rel K mg B F H r σ) (hp : H p = none) : Rel K mg B (upd F p o) (upd H p o) r σ := by
  have fp : F p = none := R.fh.free hp
  refine R.grow (same_new hp) (same_new fp) (fun a u e => ?_) (fun a h1 h2 => ?_)
  · by_cases q : a = p
    · subst q
      rw [upd_same] at e ⊢
      exact e
    · rw [upd_ne q] at e ⊢
      exact R.fh _ _ e
  · have q : a ≠ p := fun z => h2 (by rw [z]; exact hp)
    rw [upd_ne q]
    exact h1
/-- .. and is not frozen -/
theorem Rel.newO {p : Addr} {o : HO} (R : Rel K mg B F H r σ) (hp : H p = none) : Rel K mg B F (upd H p o) r σ :=
  R.grow (same_new hp) (Same.refl F) (R.fh.trans (same_new hp)) fun a h1 _ => h1
/-- a new address is not the entry's -/
theorem Rel.new_ne {p : Addr} (R : Rel K mg B F H r σ) (hp : H p = none) : B.H p = none ∧ p ∉ B.bs := by
  have nb : p ∉ B.bs := fun z => (R.live p z).1 hp
  refine ⟨?_, nb⟩
  cases q : B.H p with
  | none => rfl
  | some o =>
    rw [R.keep p o nb q] at hp
    cases hp
/-- an address that is no slot's own -/
def Loose (H : Hp) (r : En) (σ : St) (a : Addr) : Prop := ∀ (i : Nat) (s : Sl) (p : Addr), r[i]? = some (some s) → s.mine = true → σ[i]? = some (some (.ref p)) → a ∉ fp H p s.d
theorem Rel.own_live (R : Rel K mg B F H r σ) {i : Nat} {s : Sl} {p : Addr} (h : r[i]? = some (some s)) (m : s.mine = true) (e : σ[i]? = some (some (.ref p))) : (∃ o, H p = some o) ∧ F p = none := by
  obtain ⟨h1, _, h3⟩ := R.own_at h m e
  exact ⟨own_there _ h3, (h1 p fp_head).1⟩
theorem Rel.loose_new0 {p : Addr} (R : Rel K mg B F H r σ) (hp : H p = none) : Loose H r σ p := fun i s q h m e ha => by
  obtain ⟨o, ho⟩ := fp_live s.d (R.own_at h m e).2.2 p ha
  rw [hp] at ho
  cases ho
theorem Loose.ne {p q : Addr} {i : Nat} {s : Sl} (h : Loose H r σ p) (hs : r[i]? = some (some s)) (m : s.mine = true) (e : σ[i]? = some (some (.ref q))) : q ≠ p := fun z => h i s q hs m e (by rw [← z]; exact fp_head)
/-- it stays so when it is written -/
theorem Loose.poke {p : Addr} {o : HO} (h : Loose H r σ p) : Loose (upd H p o) r σ p := fun i s q hs m e ha => by
  rw [fp_eq (upd_ne (h.ne hs m e))] at ha
  exact h i s q hs m e ha
theorem Rel.loose_new {p : Addr} {o : HO} (R : Rel K mg B F H r σ) (hp : H p = none) : Loose (upd H p o) r σ p := (R.loose_new0 hp).poke
theorem Rel.loose_grow {p : Addr} (R : Rel K mg B F H r σ) (eH : Same H H') (hl : Loose H r σ p) : Loose H' r σ p := fun i s q hi ms ei ha => by
  obtain ⟨o1, h1⟩ := own_there s.d (R.own_at hi ms ei).2.2
  rw [fp_eq ((eH _ _ h1).trans h1.symm)] at ha
  exact hl i s q hi ms ei ha
/-- a loose owned object is frozen -/
theorem Rel.freeze {p : Addr} (R : Rel K mg B F H r σ) (hF : F p = none) (hB : B.H p = none) (hl : Loose H r σ p) : Rel K mg B (frzAt F H p) H r σ where
  fh := frzAt_in R.fh
  f0 := R.f0.trans (frzAt_same hF)
  keep := R.keep
  fresh := fun a h1 h2 => by
    have q : a ≠ p := fun z => h2 (by rw [z]; exact hB)
    rw [frzAt_ne q]
    exact R.fresh a h1 h2
  live := R.live
  len := R.len
  slot := fun i s h => (R.slot i s h).mono (frzAt_same hF) fun m q e a ha => ⟨rfl, fun z => by
    rw [frzAt_ne fun w => hl i s q h m e (by rw [← w]; exact ha)]
    exact z⟩
  apart := R.apart
/-- .. in another form -/
theorem Rel.freezeT {p : Addr} {o : HO} (R : Rel K mg B F H r σ) (hF : F p = none) (hB : B.H p = none) (hb : p ∉ B.bs) (hl : Loose H r σ p) : Rel K mg B (upd F p o) (upd H p o) r σ where
  fh := fun a u e => by
    by_cases q : a = p
    · subst q
      rw [upd_same] at e ⊢
      exact e
    · rw [upd_ne q] at e ⊢
      exact R.fh _ _ e
  f0 := R.f0.trans (same_new hF)
  keep := fun a u h1 h2 => by
    have q : a ≠ p := fun z => by
      rw [z, hB] at h2
      cases h2
    rw [upd_ne q]
    exact R.keep a u h1 h2
  fresh := fun a h1 h2 => by
    have q : a ≠ p := fun z => h2 (by rw [z]; exact hB)
    rw [upd_ne q]
    exact R.fresh a h1 h2
  live := fun a ha => by
    have q : a ≠ p := fun z => hb (by rw [← z]; exact ha)
    rw [upd_ne q]
    exact R.live a ha
  len := R.len
  slot := fun i s h => (R.slot i s h).mono (same_new hF) fun m q e a ha => by
    have ne : a ≠ p := fun w => hl i s q h m e (by rw [← w]; exact ha)
    exact ⟨upd_ne ne, fun z => by rw [upd_ne ne]; exact z⟩
  apart := fun i j s t p1 q1 ne hi hj ms mt ei ej a ha => by
    rw [fp_eq (upd_ne (hl.ne hi ms ei))] at ha
    rw [fp_eq (upd_ne (hl.ne hj mt ej))]
    exact R.apart i j s t p1 q1 ne hi hj ms mt ei ej a ha
/-- a slot is given something frozen -/
theorem get_set {α : Type} {l : List α} {i j : Nat} {x : α} : (l.set i x)[j]? = if i = j then (if j < l.length then some x else none) else l[j]? := by
  by_cases h : i = j
  · subst h
    rw [if_pos rfl]
    by_cases q : i < l.length
    · rw [if_pos q, List.getElem?_set_self q]
    · rw [if_neg q, List.getElem?_eq_none_iff.mpr (by rw [List.length_set]; omega)]
  · rw [if_neg h, List.getElem?_set_ne h]
theorem Rel.setF {i : Nat} {v : V} {d : D} (R : Rel K mg B F H r σ) (h : rep K mg F d v) : Rel K mg B F H (r.set i (some (.fz d))) (σ.set i (some v)) where
  fh := R.fh
  f0 := R.f0
  keep := R.keep
  fresh := R.fresh
  live := R.live
  len := by rw [List.length_set, List.length_set]; exact R.len
  slot := fun j s hj => by
    rw [get_set] at hj
    rw [get_set, ← R.len]
    by_cases q : i = j
    · rw [if_pos q] at hj ⊢
      by_cases z : j < r.length
      · rw [if_pos z] at hj ⊢
        cases hj
        exact ⟨v, rfl, h⟩
      · rw [if_neg z] at hj
        cases hj
    · rw [if_neg q] at hj ⊢
      exact R.slot j s hj
  apart := fun a b s t p q ne ha hb ms mt ea eb => by
    rw [get_set] at ha hb ea eb
    by_cases qa : i = a
    · rw [if_pos qa] at ha
      by_cases z : a < r.length
      · rw [if_pos z] at ha
        cases ha
        cases ms
      · rw [if_neg z] at ha
        cases ha
    · rw [if_neg qa] at ha ea
      by_cases qb : i = b
      · rw [if_pos qb] at hb
        by_cases z : b < r.length
        · rw [if_pos z] at hb
          cases hb
          cases mt
        · rw [if_neg z] at hb
          cases hb
      · rw [if_neg qb] at hb eb
        exact R.apart a b s t p q ne ha hb ms mt ea eb
/-- a slot is given a new owned object -/
theorem Rel.setO {i : Nat} {p : Addr} {d : D} (R : Rel K mg B F H r σ) (hA : ∀ a ∈ fp H p d, F a = none ∧ B.H a = none ∧ a ∉ B.bs ∧ Loose H r σ a) (nd : (fp H p d).Nodup) (h : ownAt K mg F H p d) : Rel K mg B F H (r.set i (some (.ow d))) (σ.set i (some (.ref p))) where
  fh := R.fh
  f0 := R.f0
  keep := R.keep
  fresh := R.fresh
  live := R.live
  len := by rw [List.length_set, List.length_set]; exact R.len
  slot := fun j s hj => by
    rw [get_set] at hj
    rw [get_set, ← R.len]
    by_cases q : i = j
    · rw [if_pos q] at hj ⊢
      by_cases z : j < r.length
      · rw [if_pos z] at hj ⊢
        cases hj
        exact ⟨p, rfl, fun a ha => ⟨(hA a ha).1, (hA a ha).2.1, (hA a ha).2.2.1⟩, nd, h⟩
      · rw [if_neg z] at hj
        cases hj
    · rw [if_neg q] at hj ⊢
      exact R.slot j s hj
  apart := fun a b s t p1 q1 ne ha hb' ms mt ea eb x hx hy => by
    rw [get_set] at ha hb' ea eb
    rw [← R.len] at ea eb
    by_cases qa : i = a
    · by_cases qb : i = b
      · exact ne (qa.symm.trans qb)
      · rw [if_neg qb] at hb' eb
        rw [if_pos qa] at ha ea
        by_cases z : a < r.length
        · rw [if_pos z] at ha ea
          cases ea
          cases ha
          exact (hA x hx).2.2.2 b t q1 hb' mt eb hy
        · rw [if_neg z] at ha
          cases ha
    · rw [if_neg qa] at ha ea
      by_cases qb : i = b
      · rw [if_pos qb] at hb' eb
        by_cases z : b < r.length
        · rw [if_pos z] at hb' eb
          cases eb
          cases hb'
          exact (hA x hy).2.2.2 a s p1 ha ms ea hx
        · rw [if_neg z] at hb'
          cases hb'
      · rw [if_neg qb] at hb' eb
        exact R.apart a b s t p1 q1 ne ha hb' ms mt ea eb x hx hy
theorem Rel.setS {i : Nat} {p : Addr} {d : D} (R : Rel K mg B F H r σ) (hF : F p = none) (hB : B.H p = none) (hb : p ∉ B.bs) (hl : Loose H r σ p) (h : ownS K mg F H p d) : Rel K mg B F H (r.set i (some (.ow d))) (σ.set i (some (.ref p))) := by
  have e : fp H p d = [p] := fp_one (ownS_no h)
  refine R.setO (fun a ha => ?_) (by rw [e]; simp) (ownS_at h)
  rw [e] at ha
  rw [List.mem_singleton.mp ha]
  exact ⟨hF, hB, hb, hl⟩
/-- a slot is forgotten -/
theorem Rel.drop {i : Nat} {ov : Option V} (R : Rel K mg B F H r σ) : Rel K mg B F H (r.set i none) (σ.set i ov) where
  fh := R.fh
  f0 := R.f0
  keep := R.keep
  fresh := R.fresh
  live := R.live
  len := by rw [List.length_set, List.length_set]; exact R.len
  slot := fun j s hj => by
    rw [get_set] at hj
    rw [get_set]
    by_cases q : i = j
    · rw [if_pos q] at hj
      by_cases z : j < r.length
      · rw [if_pos z] at hj
        cases hj
      · rw [if_neg z] at hj
        cases hj
    · rw [if_neg q] at hj ⊢
      exact R.slot j s hj
  apart := fun a b s t p q ne ha hb ms mt ea eb => by
    rw [get_set] at ha hb ea eb
    by_cases qa : i = a
    · rw [if_pos qa] at ha
      by_cases z : a < r.length
      · rw [if_pos z] at ha
        cases ha
      · rw [if_neg z] at ha
        cases ha
    · rw [if_neg qa] at ha ea
      by_cases qb : i = b
      · rw [if_pos qb] at hb
        by_cases z : b < r.length
        · rw [if_pos z] at hb
          cases hb
        · rw [if_neg z] at hb
          cases hb
      · rw [if_neg qb] at hb eb
        exact R.apart a b s t p q ne ha hb ms mt ea eb
/-- an owned or borrowed slot's object has changed -/
def Sl.put : Sl → D → Sl
  | .fz _, d => .fz d
  | .ow _, d => .ow d
  | .bo _, d => .bo d
theorem Sl.put_mine {s : Sl} {d : D} : (s.put d).mine = s.mine := by cases s <;> rfl
theorem Sl.put_d {s : Sl} {d : D} : (s.put d).d = d := by cases s <;> rfl
theorem Rel.mutL {i : Nat} {s : Sl} {p : Addr} {d : D} (R : Rel K mg B F H r σ) (hs : r[i]? = some (some s)) (m : s.mine = true) (e : σ[i]? = some (some (.ref p))) (eF : Same F F') (fh : Same F' H')
    (kH : ∀ a o, a ∉ fp H p s.d → H a = some o → H' a = some o) (lv : ∀ a ∈ fp H p s.d, H' a ≠ none) (fr : ∀ a, F a = none → H a ≠ none → F' a = none) (hq : ∀ a ∈ fp H' p d, F' a = none ∧ (a ∈ fp H p s.d ∨ (B.H a = none ∧ a ∉ B.bs ∧ Loose H r σ a))) (nd : (fp H' p d).Nodup) (h : ownAt K mg F' H' p d) :
    Rel K mg B F' H' (r.set i (some (s.put d))) σ := by
  obtain ⟨hA, _, ho⟩ := R.own_at hs m e
  -- other slots
  have oth : ∀ (j : Nat) (t : Sl) (q : Addr), i ≠ j → r[j]? = some (some t) → t.mine = true → σ[j]? = some (some (.ref q)) → ∀ a ∈ fp H q t.d, H' a = H a ∧ (F a = none → F' a = none) := fun j t q ne hj mt ej a ha => by
    have na : a ∉ fp H p s.d := fun z => R.apart i j s t p q ne hs hj m mt e ej a z ha
    obtain ⟨o, hoa⟩ := fp_live t.d (R.own_at hj mt ej).2.2 a ha
    exact ⟨by rw [hoa]; exact kH a o na hoa, fun z => fr a z (by rw [hoa]; exact fun w => nomatch w)⟩
  refine ⟨fh, R.f0.trans eF, fun a o hb ho' => ?_, fun a h1 h2 => ?_, fun a hb => ?_, by rw [List.length_set]; exact R.len, fun j t hj => ?_, fun a b s1 t1 p1 q1 ne ha hb ms mt ea eb x hx hy => ?_⟩
  · have ne : a ∉ fp H p s.d := fun z => by
      rcases (hA a z).2 with w | w
      · exact hb w
      · rw [w] at ho'
        cases ho'
    exact kH a o ne (R.keep a o hb ho')
  · have h3 := R.fresh a h1 h2
    by_cases hb : a ∈ B.bs
    · exact fr a h3 (R.live a hb).1
    · cases q : B.H a with
      | none => exact absurd q h2
      | some o => exact fr a h3 (by rw [R.keep a o hb q]; exact fun z => nomatch z)
  · obtain ⟨h1, h2⟩ := R.live a hb
    refine ⟨?_, h2⟩
    by_cases ne : a ∈ fp H p s.d
    · exact lv a ne
    · cases q : H a with
      | none => exact absurd q h1
      | some o => rw [kH _ _ ne q]; exact fun z => nomatch z
  · rw [get_set] at hj
    by_cases q : i = j
    · subst q
      rw [if_pos rfl] at hj
      by_cases z : i < r.length
      · rw [if_pos z] at hj
        cases hj
        have q := R.slot i s hs
        cases s with
        | fz d => cases m
        | ow d0 =>
          obtain ⟨p', e', hA', _, _⟩ := q
          rw [e'] at e
          cases e
          refine ⟨p, e', fun a ha => ?_, nd, h⟩
          obtain ⟨f1, f2⟩ := hq a ha
          rcases f2 with w | w
          · exact ⟨f1, (hA' a w).2⟩
          · exact ⟨f1, w.1, w.2.1⟩
        | bo d0 =>
          obtain ⟨p', e', hb, hA', _, _⟩ := q
          rw [e'] at e
          cases e
          refine ⟨p, e', hb, fun a ha => ?_, nd, h⟩
          obtain ⟨f1, f2⟩ := hq a ha
          rcases f2 with w | w
          · exact ⟨f1, (hA' a w).2⟩
          · exact ⟨f1, .inr w.1⟩
      · rw [if_neg z] at hj
        cases hj
    · rw [if_neg q] at hj
      exact (R.slot j t hj).mono eF fun mt q1 ej => oth j t q1 q hj mt ej
  · rw [get_set] at ha hb
    -- an address of the changed one is none of another's
    have key : ∀ (j : Nat) (t : Sl) (q : Addr), i ≠ j → r[j]? = some (some t) → t.mine = true → σ[j]? = some (some (.ref q)) → ∀ x ∈ fp H' p d, x ∉ fp H' q t.d := fun j t q nj hj mj ej x hx hy => by
      rw [fp_eq (oth j t q nj hj mj ej q fp_head).1] at hy
      rcases (hq x hx).2 with w | w
      · exact R.apart i j s t p q nj hs hj m mj e ej x w hy
      · exact w.2.2 j t q hj mj ej hy
    by_cases qa : i = a
    · subst qa
      rw [if_pos rfl] at ha
      by_cases z : i < r.length
      · rw [if_pos z] at ha
        cases ha
        rw [e] at ea
        cases ea
        rw [Sl.put_d] at hx
        rw [if_neg ne] at hb
        exact key b t1 q1 ne hb mt eb x hx hy
      · rw [if_neg z] at ha
        cases ha
    · rw [if_neg qa] at ha
      by_cases qb : i = b
      · subst qb
        rw [if_pos rfl] at hb
        by_cases z : i < r.length
        · rw [if_pos z] at hb
          cases hb
          rw [e] at eb
          cases eb
          rw [Sl.put_d] at hy
          exact key a s1 p1 qa ha ms ea x hy hx
        · rw [if_neg z] at hb
          cases hb
      · rw [if_neg qb] at hb
        rw [fp_eq (oth a s1 p1 qa ha ms ea p1 fp_head).1] at hx
        rw [fp_eq (oth b t1 q1 qb hb mt eb q1 fp_head).1] at hy
        exact R.apart a b s1 t1 p1 q1 ne ha hb ms mt ea eb x hx hy
theorem Rel.mut {i : Nat} {s : Sl} {p : Addr} {d : D} (R : Rel K mg B F H r σ) (hs : r[i]? = some (some s)) (m : s.mine = true) (e : σ[i]? = some (some (.ref p))) (eF : Same F F') (fh : Same F' H')
    (kH : ∀ a o, a ∉ fp H p s.d → H a = some o → H' a = some o) (lv : ∀ a ∈ fp H p s.d, H' a ≠ none) (fr : ∀ a, F a = none → H a ≠ none → F' a = none) (hq : ∀ a ∈ fp H' p d, F' a = none ∧ (a ∈ fp H p s.d ∨ H a = none)) (nd : (fp H' p d).Nodup) (h : ownAt K mg F' H' p d) :
    Rel K mg B F' H' (r.set i (some (s.put d))) σ :=
  R.mutL hs m e eF fh kH lv fr (fun a ha => ⟨(hq a ha).1, (hq a ha).2.imp id fun z => ⟨(R.new_ne z).1, (R.new_ne z).2, R.loose_new0 z⟩⟩) nd h
/-- .. an object without own parts -/
theorem Rel.mut1 {i : Nat} {s : Sl} {p : Addr} {d : D} (R : Rel K mg B F H r σ) (hs : r[i]? = some (some s)) (m : s.mine = true) (e : σ[i]? = some (some (.ref p))) (eF : Same F F') (fh : Same F' H')
    (kH : ∀ a o, a ≠ p → H a = some o → H' a = some o) (fr : ∀ a, F a = none → H a ≠ none → F' a = none) (n : noOwn d = true) (h : ownAt K mg F' H' p d) : Rel K mg B F' H' (r.set i (some (s.put d))) σ := by
  obtain ⟨hA, _, ho⟩ := R.own_at hs m e
  obtain ⟨op, hop⟩ := own_there s.d ho
  obtain ⟨op', hop'⟩ := own_there d h
  refine R.mut hs m e eF fh (fun a o na => kH a o fun z => na (by rw [z]; exact fp_head)) (fun a ha => ?_) fr (fun a ha => ?_) (by rw [fp_one n]; simp) h
  · by_cases z : a = p
    · rw [z, hop']
      exact fun w => nomatch w
    · obtain ⟨o, hoa⟩ := fp_live s.d ho a ha
      rw [kH a o z hoa]
      exact fun w => nomatch w
  · rw [fp_one n] at ha
    rw [List.mem_singleton.mp ha]
    exact ⟨fr p (hA p fp_head).1 (by rw [hop]; exact fun w => nomatch w), .inl fp_head⟩
/-- an owned slot frozen where it stands -/
theorem Rel.frz {i : Nat} {p : Addr} {d : D} {u o : HO} (R : Rel K mg B F H r σ) (hs : r[i]? = some (some (.ow d))) (n : noOwn d = true) (e : σ[i]? = some (some (.ref p))) (hu : H p = some u) (k : okSeal u o) : Rel K mg B (upd F p o) (upd H p o) (r.set i (some (.fz d))) σ ∧ rep K mg (upd F p o) d (.ref p) ∧ Same F (upd F p o) := by
  obtain ⟨p', e', hA, nd, h⟩ := R.slot i _ hs
  rw [e] at e'
  cases e'
  obtain ⟨hF, hB, hb⟩ := hA p fp_head
  have hi : i < r.length := (List.getElem?_eq_some_iff.mp hs).1
  have hi' : i < σ.length := by rw [← R.len]; exact hi
  have R1 : Rel K mg B F H (r.set i none) (σ.set i (some (.ref p))) := R.drop
  have es : σ.set i (some (.ref p)) = σ := by
    refine List.ext_getElem? fun j => ?_
    rw [get_set]
    by_cases q : i = j
    · subst q
      rw [if_pos rfl, if_pos hi', e]
    · rw [if_neg q]
  rw [es] at R1
  have hl : Loose H (r.set i none) σ p := fun j t q hj mt ej => by
    rw [get_set] at hj
    by_cases qq : i = j
    · rw [if_pos qq] at hj
      by_cases z : j < r.length
      · rw [if_pos z] at hj
        cases hj
      · rw [if_neg z] at hj
        cases hj
    · rw [if_neg qq] at hj
      exact R.apart i j _ t p q qq hs hj rfl mt e ej p fp_head
  have R2 := R1.freezeT (o := o) hF hB hb hl
  have h2 := rep_seal (K := K) (mg := mg) (H := H) hF hu k d n h
  have R3 := R2.setF (i := i) h2
  rw [es, List.set_set] at R3
  exact ⟨R3, h2, same_new hF⟩
end
end Dl

set_option Elab.async false
set_option linter.all false
set_option maxRecDepth 100000
set_option maxHeartbeats 4000000
namespace Dl
open PySem L2

/-! ### what is wanted behind an evaluation -/
abbrev RR (α β : Type) := Bg → St → En → Hp → Hp → α → β → Prop
section
variable (K : PySem.W.Frag) (mg : Str → Option Value)
def xdOk (F H : Hp) (fs : List (Str × D)) : Option Addr → Prop
  | none => fs = []
  | some dd => ∃ ws, H dd = some (.xd ws) ∧ repF K mg F fs ws
def PoX (W : WX) (B : Bg) (F : Hp) (c : Str) (fs : List (Str × D)) (r' : En) : Prop :=
  ∀ C od σ' F' H', mg c = some (.ref C) → Rel K mg B F' H' r' σ' → Same F F' → xdOk K mg F' H' fs od → W (.ref C) od σ' H'
def Po {α β : Type} (W : WX) (B : Bg) (F : Hp) (σ : St) (R : RR α β) (Q : β → Hp → Prop) : Res (α × En) → Prop
  | .ok (a, r') => ∀ b F' H', Rel K mg B F' H' r' σ → Same F F' → R B σ r' F' H' a b → Q b H'
  | .er c fs r' => PoX K mg W B F c fs r'
  | .bad => False
def Ent {α β : Type} (W : WX) (R : RR α β) (t : St → Hp → (β → Hp → Prop) → Prop) (f : En → Res (α × En)) : Prop :=
  ∀ B F H r σ Q, Rel K mg B F H r σ → Po K mg W B F σ R Q (f r) → t σ H Q
/-- results: a frozen value, a truth, a list of frozen values, a new object -/
def rE : RR D V := fun _ _ _ F _ d v => rep K mg F d v
def rT : RR Bool Bool := fun _ _ _ _ _ a b => a = b
def rA : RR (List D) (List V) := fun _ _ _ F _ ds vs => repL K mg F ds vs
def rN : RR D V := fun B σ r F H d v => ∃ p, v = .ref p ∧ F p = none ∧ B.H p = none ∧ p ∉ B.bs ∧ Loose H r σ p ∧ ownS K mg F H p d
/-- what is looked at alone: a frozen value, or what stands in a slot -/
inductive BV where
  | fz (d : D) | sl (i : Nat)
def rB : RR BV V := fun _ σ _ F _ b v => match b with
  | .fz d => rep K mg F d v
  | .sl i => σ[i]? = some (some v)
end
def getB : BV → En → Res D
  | .fz d, _ => .ok d
  | .sl i, r => match r[i]? with
    | some (some s) => .ok s.d
    | _ => .bad
theorem getB_ner {b : BV} {r : En} {c : Str} {fs : List (Str × D)} {r' : En} (h : getB b r = .er c fs r') : False := by
  cases b with
  | fz d => cases h
  | sl i =>
    unfold getB at h
    cases e : r[i]? with
    | none =>
      simp only [e] at h
      cases h
    | some o =>
      cases o with
      | none =>
        simp only [e] at h
        cases h
      | some s =>
        simp only [e] at h
        cases h
section
variable {K : PySem.W.Frag} {mg : Str → Option Value} {W : WX} {B : Bg} {F F' H H' : Hp} {r : En} {σ : St}
theorem PoX.weak {c : Str} {fs : List (Str × D)} {r' : En} (h : PoX K mg W B F c fs r') (e : Same F F') : PoX K mg W B F' c fs r' :=
  fun C od σ' F1 H1 m R s x => h C od σ' F1 H1 m R (e.trans s) x
theorem Po.weak {α β : Type} {R : RR α β} {Q : β → Hp → Prop} {m : Res (α × En)} (h : Po K mg W B F σ R Q m) (e : Same F F') : Po K mg W B F' σ R Q m := by
  cases m with
  | ok p => exact fun b F1 H1 R1 s x => h b F1 H1 R1 (e.trans s) x
  | er c fs r' => exact PoX.weak h e
  | bad => exact h
theorem Po.bind {α β γ δ : Type} {R : RR α β} {R' : RR γ δ} {m : Res (α × En)} {k : α × En → Res (γ × En)} {Q : δ → Hp → Prop} {Q1 : β → Hp → Prop} (h : Po K mg W B F σ R' Q (m.bind k))
    (c : ∀ a r' b F' H', Rel K mg B F' H' r' σ → Same F F' → R B σ r' F' H' a b → Po K mg W B F' σ R' Q (k (a, r')) → Q1 b H') : Po K mg W B F σ R Q1 m := by
  cases m with
  | ok p =>
    obtain ⟨a, r'⟩ := p
    exact fun b F1 H1 R1 s x => c a r' b F1 H1 R1 s x (Po.weak (show Po K mg W B F σ R' Q (k (a, r')) from h) s)
  | er c fs r' => exact h
  | bad => exact h
theorem Po.fin {α β : Type} {R : RR α β} {Q : β → Hp → Prop} {a : α} {b : β} (h : Po K mg W B F σ R Q (.ok (a, r))) (R1 : Rel K mg B F H r σ) (x : R B σ r F H a b) : Q b H := h b F H R1 (Same.refl F) x
theorem Ent.to {α β γ δ : Type} {R : RR α β} {R' : RR γ δ} {t : St → Hp → (β → Hp → Prop) → Prop} {f : En → Res (α × En)} {k : α × En → Res (γ × En)} {Q : δ → Hp → Prop} {Q1 : β → Hp → Prop} (h : Ent K mg W R t f) (R1 : Rel K mg B F H r σ)
    (p : Po K mg W B F σ R' Q ((f r).bind k)) (c : ∀ a r' b F' H', Rel K mg B F' H' r' σ → Same F F' → R B σ r' F' H' a b → Po K mg W B F' σ R' Q (k (a, r')) → Q1 b H') : t σ H Q1 :=
  h B F H r σ Q1 R1 (Po.bind p c)
theorem rB_mono {b : BV} {v : V} {r' : En} (e : Same F F') (h : rB K mg B σ r F H b v) : rB K mg B σ r' F' H' b v := by
  cases b with
  | fz d => exact rep_mono e d v h
  | sl i => exact h
theorem getB_vw {b : BV} {v : V} {d : D} (R : Rel K mg B F H r σ) (h : rB K mg B σ r F H b v) (g : getB b r = .ok d) : vw K mg F H d v := by
  cases b with
  | fz d' =>
    cases g
    exact vw_of R.fh d v h
  | sl i =>
    have h' : σ[i]? = some (some v) := h
    unfold getB at g
    cases e : r[i]? with
    | none =>
      simp only [e] at g
      cases g
    | some o =>
      cases o with
      | none =>
        simp only [e] at g
        cases g
      | some s =>
        simp only [e] at g
        cases g
        have q := R.slot i s e
        cases s with
        | fz d =>
          obtain ⟨v', e', h1⟩ := q
          rw [h'] at e'
          cases e'
          exact vw_of R.fh _ _ h1
        | ow d =>
          obtain ⟨p, e', _, _, h1⟩ := q
          rw [h'] at e'
          cases e'
          exact vw_own _ h1
        | bo d =>
          obtain ⟨p, e', _, _, _, h1⟩ := q
          rw [h'] at e'
          cases e'
          exact vw_own _ h1
end

/-! ### the judgements -/
structure DE (X : Cx) (W : WX) (e : Expr) (f : En → Res (D × En)) : Prop where
  ex : ∃ t, PE X e t ∧ Ent X.K X.mg W (rE X.K X.mg) t f
structure DN (X : Cx) (W : WX) (e : Expr) (f : En → Res (D × En)) : Prop where
  ex : ∃ t, PE X e t ∧ Ent X.K X.mg W (rN X.K X.mg) t f
structure DB (X : Cx) (W : WX) (e : Expr) (f : En → Res (BV × En)) : Prop where
  ex : ∃ t, PE X e t ∧ Ent X.K X.mg W (rB X.K X.mg) t f
structure DT (X : Cx) (W : WX) (e : Expr) (f : En → Res (Bool × En)) : Prop where
  ex : ∃ t, PT X e t ∧ Ent X.K X.mg W rT t f
structure DW (X : Cx) (W : WX) (e : Expr) (f : En → Res (Bool × En)) : Prop where
  ex : ∃ t, PW X e t ∧ Ent X.K X.mg W rT t f
structure DA (X : Cx) (W : WX) (es : List Expr) (f : En → Res (List D × En)) : Prop where
  ex : ∃ t, PA X es t ∧ Ent X.K X.mg W (rA X.K X.mg) t f

/-! ### combinators -/
def eVar (i : Nat) : En → Res (D × En) := fun r => match r[i]? with
  | some (some (.fz d)) => .ok (d, r)
  | some (some (.ow d)) => if noOwn d = true then .ok (d, r.set i (some (.fz d))) else .bad
  | _ => .bad
def eC (d : D) : En → Res (D × En) := fun r => .ok (d, r)
def bVar (i : Nat) : En → Res (BV × En) := fun r => match r[i]? with
  | some (some _) => .ok (.sl i, r)
  | _ => .bad
def bOf (f : En → Res (D × En)) : En → Res (BV × En) := fun r => (f r).bind fun p => .ok (.fz p.1, p.2)
def liftR {α : Type} (m : Option α) : Res α := match m with
  | some a => .ok a
  | none => .bad
/-- two operands, looked at when both are there -/
def eBin (g : D → D → Option D) (fa fb : En → Res (BV × En)) : En → Res (D × En) := fun r =>
  (fa r).bind fun p => (fb p.2).bind fun q => (getB p.1 q.2).bind fun x => (getB q.1 q.2).bind fun y => (liftR (g x y)).bind fun z => .ok (z, q.2)
def eUn (g : D → Option D) (fa : En → Res (BV × En)) : En → Res (D × En) := fun r =>
  (fa r).bind fun p => (getB p.1 p.2).bind fun x => (liftR (g x)).bind fun z => .ok (z, p.2)

section
variable {X : Cx} {W : WX}
theorem DE.db {e : Expr} {f : En → Res (D × En)} (h : DE X W e f) : DB X W e (bOf f) := by
  obtain ⟨t, hp, he⟩ := h.ex
  exact ⟨t, hp, fun B F H r σ Q R p => he.to R p fun a r' b F' H' R' s x q => q.fin R' x⟩
theorem PE.or {X : Cx} {e : Expr} {t u : TE} (h : PE X e t) (k : PE X e u) : PE X e (fun σ H Q => t σ H Q ∨ u σ H Q) := ⟨fun pins s σ H Q I z => z.elim (h.run pins s σ H Q I) (k.run pins s σ H Q I)⟩
/-- what is new is sealed -/
def zSeal (v : V) (H : Hp) (Q : VK) : Prop := (∀ p u, v = .ref p → H p = some u → ∀ o, okSeal u o → Q v (upd H p o)) ∧ ((∀ p u, v = .ref p → H p ≠ some u) → Q v H)
def tSeal (t : TE) : TE := fun σ H Q => t σ H fun v H1 => zSeal v H1 Q
theorem upd_id {H : Hp} {p : Addr} {u : HO} (h : H p = some u) : upd H p u = H := by
  funext b
  by_cases q : b = p
  · subst q
    rw [upd_same, h]
  · rw [upd_ne q]
theorem pe_seal {e : Expr} {t : TE} (h : PE X e t) : PE X e (tSeal t) := by
  refine ⟨fun pins s σ H Q I q => thn (h.run pins s σ H _ I q) fun w s1 ⟨v, H1, I1, r1, q1⟩ => ?_⟩
  by_cases c : ∃ p u, v = .ref p ∧ H1 p = some u
  · obtain ⟨p, u, rfl, hu⟩ := c
    by_cases d : ∃ kvs, u = .dK kvs
    · obtain ⟨kvs, rfl⟩ := d
      obtain ⟨ob, I2⟩ := I1.lock hu True.intro
      exact ⟨_, _, I2, r1, q1.1 p _ rfl hu _ ⟨ob, rfl⟩⟩
    · have k : okSeal u u := by
        cases u with
        | dK kvs => exact absurd ⟨kvs, rfl⟩ d
        | _ => exact rfl
      have z := q1.1 p u rfl hu u k
      rw [upd_id hu] at z
      exact ⟨_, _, I1, r1, z⟩
  · exact ⟨_, _, I1, r1, q1.2 fun p u ev hu => c ⟨p, u, ev, hu⟩⟩
/-- a frozen value is sealed already -/
theorem seal_fz {K : PySem.W.Frag} {mg : Str → Option Value} {F H : Hp} {d : D} {v : V} {Q : VK} (s : Same F H) (x : rep K mg F d v) (q : Q v H) (hn : ∀ p kvs, v = .ref p → H p ≠ some (.dK kvs)) : zSeal v H Q := by
  refine ⟨fun p u ev hu o k => ?_, fun _ => q⟩
  have eo : o = u := by
    cases u with
    | dK kvs => exact absurd hu (hn p kvs ev)
    | _ => exact k
  subst eo
  rw [upd_id hu]
  exact q
theorem DN.de {e : Expr} {f : En → Res (D × En)} (h : DN X W e f) : DE X W e f := by
  obtain ⟨t, hp, he⟩ := h.ex
  refine ⟨_, pe_seal hp, fun B F H r σ Q R p => he B F H r σ _ R ?_⟩
  cases q : f r with
  | ok a =>
    obtain ⟨d, r'⟩ := a
    rw [q] at p
    rintro b F' H' R' s ⟨pa, rfl, h1, h2, h3, h4, h5⟩
    obtain ⟨u0, hu0⟩ := own_there d (ownS_at h5)
    refine ⟨fun p' u ev hu o k => ?_, fun z => absurd hu0 (z pa u0 rfl)⟩
    cases ev
    exact p _ _ _ (R'.freezeT h1 h2 h3 h4) (s.trans (same_new h1)) (rep_seal h1 hu k d (ownS_no h5) (ownS_at h5))
  | er c fs r' =>
    rw [q] at p
    exact p
  | bad =>
    rw [q] at p
    exact p
theorem de_var {i : Nat} {x : Str} {pos : Pos} (hN : X.N[i]? = some x := by rfl) (hv : Vis X.env.scope x := by first | exact Or.inl rfl | exact Or.inr (Or.inl rfl) | exact Or.inr (Or.inr rfl)) (hd : (x == ("__debug__" : Str)) = false := by decide)
    (hcd : (x == ("__classdict__" : Str)) = false := by decide) : DE X W (.Name x pos) (eVar i) := by
  refine ⟨_, PE.or (pe_var hN hv hd hcd) (pe_seal (pe_var hN hv hd hcd)), fun B F H r σ Q R p => ?_⟩
  unfold eVar at p
  cases e : r[i]? with
  | none =>
    rw [e] at p
    exact p.elim
  | some o =>
    cases o with
    | none =>
      rw [e] at p
      exact p.elim
    | some s =>
      rw [e] at p
      have q := R.slot i s e
      cases s with
      | fz d =>
        obtain ⟨v, e', h1⟩ := q
        exact .inl ⟨v, e', p v F H R (Same.refl F) h1⟩
      | ow d =>
        obtain ⟨pa, e', h1⟩ := q
        obtain ⟨u0, hu0⟩ := own_there d h1.2.2
        by_cases no : noOwn d = true
        · simp only [if_pos no] at p
          refine .inr ⟨_, e', fun p' u ev hu o k => ?_, fun z => absurd hu0 (z pa u0 rfl)⟩
          cases ev
          obtain ⟨R1, r1, s1⟩ := R.frz e no e' hu k
          exact p _ _ _ R1 s1 r1
        · simp only [if_neg no] at p
          exact p.elim
      | bo d => exact p.elim
theorem db_var {i : Nat} {x : Str} {pos : Pos} (hN : X.N[i]? = some x := by rfl) (hv : Vis X.env.scope x := by first | exact Or.inl rfl | exact Or.inr (Or.inl rfl) | exact Or.inr (Or.inr rfl)) (hd : (x == ("__debug__" : Str)) = false := by decide)
    (hcd : (x == ("__classdict__" : Str)) = false := by decide) : DB X W (.Name x pos) (bVar i) := by
  refine ⟨_, pe_var hN hv hd hcd, fun B F H r σ Q R p => ?_⟩
  unfold bVar at p
  cases e : r[i]? with
  | none =>
    rw [e] at p
    exact p.elim
  | some o =>
    cases o with
    | none =>
      rw [e] at p
      exact p.elim
    | some s =>
      rw [e] at p
      have q := R.slot i s e
      cases s with
      | fz d =>
        obtain ⟨v, e', h1⟩ := q
        exact ⟨v, e', p v F H R (Same.refl F) e'⟩
      | ow d =>
        obtain ⟨pa, e', h1⟩ := q
        exact ⟨_, e', p _ F H R (Same.refl F) e'⟩
      | bo d =>
        obtain ⟨pa, e', h1⟩ := q
        exact ⟨_, e', p _ F H R (Same.refl F) e'⟩
theorem de_c {e : Expr} {d : D} {v : V} (h : PE X e (tC v)) (hr : ∀ F, rep X.K X.mg F d v) : DE X W e (eC d) := ⟨_, h, fun B F H r σ Q R p => p v F H R (Same.refl F) (hr F)⟩
theorem de_int {i j pos} : DE X W (.Constant (.int i) j pos) (eC (.int i)) := de_c pe_int fun _ => rfl
theorem de_bl {i j pos} : DE X W (.Constant (.bool i) j pos) (eC (.bl i)) := de_c pe_bl fun _ => rfl
theorem de_non {j pos} : DE X W (.Constant .none j pos) (eC .non) := de_c pe_non fun _ => rfl
theorem de_str {x j pos} : DE X W (.Constant (.str x) j pos) (eC (.str x)) := de_c pe_str fun _ => rfl
/-- a module's name: a number, a text; a def or a class; a built-in class -/
theorem de_gint {x : Str} {i : Int} {pos : Pos} (hg : Gl X x) (hm : ∃ t, X.mg x = some (.int i t)) (hd : (x == ("__debug__" : Str)) = false := by decide) : DE X W (.Name x pos) (eC (.int i)) := by
  obtain ⟨t, e⟩ := hm
  exact de_c (pe_glob (v := .int i) hg e ⟨t, rfl⟩ hd) fun _ => rfl
theorem de_gstr {x z : Str} {pos : Pos} (hg : Gl X x) (hm : ∃ t, X.mg x = some (.str z t)) (hd : (x == ("__debug__" : Str)) = false := by decide) : DE X W (.Name x pos) (eC (.str z)) := by
  obtain ⟨t, e⟩ := hm
  exact de_c (pe_glob (v := .str z) hg e ⟨t, rfl⟩ hd) fun _ => rfl
theorem de_gl {x : Str} {a : Addr} {pos : Pos} (hg : Gl X x) (hm : X.mg x = some (.ref a)) (hd : (x == ("__debug__" : Str)) = false := by decide) : DE X W (.Name x pos) (eC (.gl x)) :=
  de_c (pe_glob (v := .ref a) hg hm rfl hd) fun _ => ⟨a, rfl, hm⟩
theorem de_ty {x : Str} {n : String} {pos : Pos} (hg : Gl X x) (hm : X.mg x = none) (hv : bootBuiltins x = some (.type n)) (hn : x ≠ "__name__" := by decide) (hd : (x == ("__debug__" : Str)) = false := by decide) : DE X W (.Name x pos) (eC (.ty n)) :=
  de_c (pe_bltn (v := .ty n) hg hm hv rfl hn hd) fun _ => rfl

/-! ### operators on values -/
/-- nothing changes: rr v u gives g x y -/
def OpV (X : Cx) (rr : R2) (g : D → D → Option D) : Prop := ∀ F H v u x y z Q, Same F H → vw X.K X.mg F H x v → vw X.K X.mg F H y u → g x y = some z → (∀ w, rep X.K X.mg F z w → Q w H) → rr v u H Q
/-- a new object comes -/
def OpN (X : Cx) (rr : R2) (g : D → D → Option D) : Prop := ∀ F H v u x y z Q, Same F H → vw X.K X.mg F H x v → vw X.K X.mg F H y u → g x y = some z → (∀ p o, H p = none → ownS X.K X.mg F (upd H p o) p z → Q (.ref p) (upd H p o)) → rr v u H Q
def UnV (X : Cx) (rr : V → Hp → VK → Prop) (g : D → Option D) : Prop := ∀ F H v x z Q, Same F H → vw X.K X.mg F H x v → g x = some z → (∀ w, rep X.K X.mg F z w → Q w H) → rr v H Q
def UnN (X : Cx) (rr : V → Hp → VK → Prop) (g : D → Option D) : Prop := ∀ F H v x z Q, Same F H → vw X.K X.mg F H x v → g x = some z → (∀ p o, H p = none → ownS X.K X.mg F (upd H p o) p z → Q (.ref p) (upd H p o)) → rr v H Q
theorem bin_ent {ta tb : TE} {fa fb : En → Res (BV × En)} {rr : R2} {g : D → D → Option D} {R : RR D V} (ha : Ent X.K X.mg W (rB X.K X.mg) ta fa) (hb : Ent X.K X.mg W (rB X.K X.mg) tb fb)
    (hr : ∀ B F H r σ v u x y z Q, Rel X.K X.mg B F H r σ → vw X.K X.mg F H x v → vw X.K X.mg F H y u → g x y = some z → Po X.K X.mg W B F σ R Q (.ok (z, r)) → rr v u H Q) : Ent X.K X.mg W R (tOp rr ta tb) (eBin g fa fb) := by
  intro B F H r σ Q R0 p
  unfold eBin at p
  refine ha.to R0 p fun a r1 v F1 H1 R1 s1 x1 p1 => ?_
  refine hb.to R1 p1 fun b r2 u F2 H2 R2 s2 x2 p2 => ?_
  have x1' := rB_mono (r' := r2) (H' := H2) s2 x1
  cases g1 : getB a r2 with
  | ok d1 =>
    cases g2 : getB b r2 with
    | ok d2 =>
      simp only [g1, g2, bind_ok] at p2
      cases g3 : g d1 d2 with
      | some z =>
        simp only [g3, liftR, bind_ok] at p2
        exact hr B F2 H2 r2 σ v u d1 d2 z Q R2 (getB_vw R2 x1' g1) (getB_vw R2 x2 g2) g3 p2
      | none =>
        simp only [g3, liftR, bind_bad] at p2
        exact p2.elim
    | er c fs r' =>
      exact (getB_ner g2).elim
    | bad =>
      simp only [g1, g2, bind_ok, bind_bad] at p2
      exact p2.elim
  | er c fs r' =>
    exact (getB_ner g1).elim
  | bad =>
    simp only [g1, bind_bad] at p2
    exact p2.elim
theorem un_ent {ta : TE} {fa : En → Res (BV × En)} {rr : V → Hp → VK → Prop} {g : D → Option D} {R : RR D V} (ha : Ent X.K X.mg W (rB X.K X.mg) ta fa)
    (hr : ∀ B F H r σ v x z Q, Rel X.K X.mg B F H r σ → vw X.K X.mg F H x v → g x = some z → Po X.K X.mg W B F σ R Q (.ok (z, r)) → rr v H Q) : Ent X.K X.mg W R (tUn rr ta) (eUn g fa) := by
  intro B F H r σ Q R0 p
  unfold eUn at p
  refine ha.to R0 p fun a r1 v F1 H1 R1 s1 x1 p1 => ?_
  cases g1 : getB a r1 with
  | ok d1 =>
    simp only [g1, bind_ok] at p1
    cases g3 : g d1 with
    | some z =>
      simp only [g3, liftR, bind_ok] at p1
      exact hr B F1 H1 r1 σ v d1 z Q R1 (getB_vw R1 x1 g1) g3 p1
    | none =>
      simp only [g3, liftR, bind_bad] at p1
      exact p1.elim
  | er c fs r' =>
    exact (getB_ner g1).elim
  | bad =>
    simp only [g1, bind_bad] at p1
    exact p1.elim
theorem opV_hr {rr : R2} {g : D → D → Option D} (h : OpV X rr g) (B F H r σ v u x y z Q) (R0 : Rel X.K X.mg B F H r σ) (h1 : vw X.K X.mg F H x v) (h2 : vw X.K X.mg F H y u) (h3 : g x y = some z) (p : Po X.K X.mg W B F σ (rE X.K X.mg) Q (.ok (z, r))) : rr v u H Q :=
  h F H v u x y z Q R0.fh h1 h2 h3 fun w hw => p w F H R0 (Same.refl F) hw
theorem opN_hr {rr : R2} {g : D → D → Option D} (h : OpN X rr g) (B F H r σ v u x y z Q) (R0 : Rel X.K X.mg B F H r σ) (h1 : vw X.K X.mg F H x v) (h2 : vw X.K X.mg F H y u) (h3 : g x y = some z) (p : Po X.K X.mg W B F σ (rN X.K X.mg) Q (.ok (z, r))) : rr v u H Q :=
  h F H v u x y z Q R0.fh h1 h2 h3 fun pa o hp ho => p _ F _ (R0.newO hp) (Same.refl F) ⟨pa, rfl, R0.fh.free hp, (R0.new_ne hp).1, (R0.new_ne hp).2, R0.loose_new hp, ho⟩
theorem unV_hr {rr : V → Hp → VK → Prop} {g : D → Option D} (h : UnV X rr g) (B F H r σ v x z Q) (R0 : Rel X.K X.mg B F H r σ) (h1 : vw X.K X.mg F H x v) (h3 : g x = some z) (p : Po X.K X.mg W B F σ (rE X.K X.mg) Q (.ok (z, r))) : rr v H Q :=
  h F H v x z Q R0.fh h1 h3 fun w hw => p w F H R0 (Same.refl F) hw
theorem unN_hr {rr : V → Hp → VK → Prop} {g : D → Option D} (h : UnN X rr g) (B F H r σ v x z Q) (R0 : Rel X.K X.mg B F H r σ) (h1 : vw X.K X.mg F H x v) (h3 : g x = some z) (p : Po X.K X.mg W B F σ (rN X.K X.mg) Q (.ok (z, r))) : rr v H Q :=
  h F H v x z Q R0.fh h1 h3 fun pa o hp ho => p _ F _ (R0.newO hp) (Same.refl F) ⟨pa, rfl, R0.fh.free hp, (R0.new_ne hp).1, (R0.new_ne hp).2, R0.loose_new hp, ho⟩
variable {a b e : Expr} {pos : Pos} {fa fb : En → Res (BV × En)}
theorem de_op {op : Operator} {rr : R2} {g : D → D → Option D} (ho : OpR X (binaryOp op) rr) (hv : OpV X rr g) (ha : DB X W a fa) (hb : DB X W b fb) : DE X W (.BinOp a op b pos) (eBin g fa fb) := by
  obtain ⟨ta, pa, ea⟩ := ha.ex
  obtain ⟨tb, pb, eb⟩ := hb.ex
  exact ⟨_, pe_op ho pa pb, bin_ent ea eb (opV_hr hv)⟩
theorem dn_op {op : Operator} {rr : R2} {g : D → D → Option D} (ho : OpR X (binaryOp op) rr) (hv : OpN X rr g) (ha : DB X W a fa) (hb : DB X W b fb) : DN X W (.BinOp a op b pos) (eBin g fa fb) := by
  obtain ⟨ta, pa, ea⟩ := ha.ex
  obtain ⟨tb, pb, eb⟩ := hb.ex
  exact ⟨_, pe_op ho pa pb, bin_ent ea eb (opN_hr hv)⟩
theorem de_un {op : UnaryOp} {rr : V → Hp → VK → Prop} {g : D → Option D} (ho : UnR X (unaryOp op) rr) (hv : UnV X rr g) (ha : DB X W a fa) : DE X W (.UnaryOp op a pos) (eUn g fa) := by
  obtain ⟨ta, pa, ea⟩ := ha.ex
  exact ⟨_, pe_un ho pa, un_ent ea (unV_hr hv)⟩
theorem de_cmp {op : CmpOp} {rr : R2} {g : D → D → Option D} (ho : OpR X (compareOp op) rr) (hv : OpV X rr g) (ha : DB X W a fa) (hb : DB X W b fb) (hm : behindInMarks op b = false := by first | exact nomark _ | rfl) : DE X W (.Compare a [op] [b] pos) (eBin g fa fb) := by
  obtain ⟨ta, pa, ea⟩ := ha.ex
  obtain ⟨tb, pb, eb⟩ := hb.ex
  exact ⟨_, pe_cmpR ho pa pb hm, bin_ent ea eb (opV_hr hv)⟩
/-- a[i], a a thing that is looked at -/
theorem de_ix {rr : R2} {g : D → D → Option D} (ho : IxR X rr) (hv : OpV X rr g) (ha : DB X W a fa) (hb : DB X W b fb) (hs : PlainIx b := by exact fun _ _ => rfl) : DE X W (.Subscript a b pos) (eBin g fa fb) := by
  obtain ⟨ta, pa, ea⟩ := ha.ex
  obtain ⟨tb, pb, eb⟩ := hb.ex
  exact ⟨_, pe_ix ho pa pb hs, bin_ent ea eb (opV_hr hv)⟩

/-! ### tests -/
def tOfE (f : En → Res (D × En)) : En → Res (Bool × En) := fun r => (f r).bind fun p => match p.1 with
  | .bl c => .ok (c, p.2)
  | _ => .bad
theorem tB_ent {t : TE} {f : En → Res (D × En)} (h : Ent X.K X.mg W (rE X.K X.mg) t f) : Ent X.K X.mg W rT (tB t) (tOfE f) := by
  intro B F H r σ Q R p
  refine h.to R p fun d r' v F' H' R' s x q => ?_
  cases d with
  | bl c => exact ⟨c, x, q c F' H' R' (Same.refl F') rfl⟩
  | _ => exact q.elim
theorem dt_val {f : En → Res (D × En)} (h : DE X W e f) (he : ∀ whole, isTrue e X.env whole = (do let v ← whole; standAt e.pos; holding [v] (truthy v)) := by intro _; rfl) : DT X W e (tOfE f) := by
  obtain ⟨t, hp, hh⟩ := h.ex
  exact ⟨_, pt_val hp he, tB_ent hh⟩
theorem dt_cmp {op : CmpOp} {rr : R2} {g : D → D → Option D} (ho : OpR X (compareOp op) rr) (hv : OpV X rr g) (ha : DB X W a fa) (hb : DB X W b fb) (hm : behindInMarks op b = false := by first | exact nomark _ | rfl) : DT X W (.Compare a [op] [b] pos) (tOfE (eBin g fa fb)) := by
  obtain ⟨ta, pa, ea⟩ := ha.ex
  obtain ⟨tb, pb, eb⟩ := hb.ex
  exact ⟨_, pt_cmpR ho pa pb hm, tB_ent (bin_ent ea eb (opV_hr hv))⟩
def tAndD (f g : En → Res (Bool × En)) : En → Res (Bool × En) := fun r => (f r).bind fun p => match p.1 with
  | true => g p.2
  | false => .ok (false, p.2)
def tOrD (f g : En → Res (Bool × En)) : En → Res (Bool × En) := fun r => (f r).bind fun p => match p.1 with
  | true => .ok (true, p.2)
  | false => g p.2
def tNotD (f : En → Res (Bool × En)) : En → Res (Bool × En) := fun r => (f r).bind fun p => .ok (!p.1, p.2)
variable {f g : En → Res (Bool × En)} {rest : List Expr}
theorem DW.dt (h : DW X W e f) : DT X W e f := by
  obtain ⟨t, hp, hh⟩ := h.ex
  exact ⟨t, hp.pt, hh⟩
theorem dw_and1 (h : DT X W a f) : DW X W (.BoolOp .And [a] pos) f := by
  obtain ⟨t, hp, hh⟩ := h.ex
  exact ⟨t, pw_and1 hp, hh⟩
theorem dw_or1 (h : DT X W a f) : DW X W (.BoolOp .Or [a] pos) f := by
  obtain ⟨t, hp, hh⟩ := h.ex
  exact ⟨t, pw_or1 hp, hh⟩
theorem dw_and (h : DT X W a f) (k : DW X W (.BoolOp .And (b :: rest) pos) g) : DW X W (.BoolOp .And (a :: b :: rest) pos) (tAndD f g) := by
  obtain ⟨t, hp, hh⟩ := h.ex
  obtain ⟨u, kp, kh⟩ := k.ex
  refine ⟨_, pw_and hp kp, fun B F H r σ Q R p => hh.to R p fun c r' c' F' H' R' s x q => ?_⟩
  cases (show c = c' from x)
  cases c with
  | true => exact kh B F' H' r' σ Q R' q
  | false => exact q false F' H' R' (Same.refl F') rfl
theorem dw_or (h : DT X W a f) (k : DW X W (.BoolOp .Or (b :: rest) pos) g) : DW X W (.BoolOp .Or (a :: b :: rest) pos) (tOrD f g) := by
  obtain ⟨t, hp, hh⟩ := h.ex
  obtain ⟨u, kp, kh⟩ := k.ex
  refine ⟨_, pw_or hp kp, fun B F H r σ Q R p => hh.to R p fun c r' c' F' H' R' s x q => ?_⟩
  cases (show c = c' from x)
  cases c with
  | true => exact q true F' H' R' (Same.refl F') rfl
  | false => exact kh B F' H' r' σ Q R' q
theorem dt_not (h : DT X W a f) : DT X W (.UnaryOp .Not a pos) (tNotD f) := by
  obtain ⟨t, hp, hh⟩ := h.ex
  refine ⟨_, pt_not hp, fun B F H r σ Q R p => hh.to R p fun c r' c' F' H' R' s x q => ?_⟩
  cases (show c = c' from x)
  exact q (!c) F' H' R' (Same.refl F') rfl
/-- and, or, not as values (bools) -/
def eAnd (f g : En → Res (D × En)) : En → Res (D × En) := fun r => (f r).bind fun p => match p.1 with
  | .bl true => g p.2
  | .bl false => .ok (.bl false, p.2)
  | _ => .bad
def eOr (f g : En → Res (D × En)) : En → Res (D × En) := fun r => (f r).bind fun p => match p.1 with
  | .bl true => .ok (.bl true, p.2)
  | .bl false => g p.2
  | _ => .bad
def eNot (f : En → Res (D × En)) : En → Res (D × En) := fun r => (f r).bind fun p => match p.1 with
  | .bl c => .ok (.bl (!c), p.2)
  | _ => .bad
variable {h k : En → Res (D × En)}
theorem de_one {op} (hh : DE X W a h) : DE X W (.BoolOp op [a] pos) h := by
  obtain ⟨t, hp, he⟩ := hh.ex
  exact ⟨t, pe_one hp, he⟩
theorem de_and (hh : DE X W a h) (kk : DE X W (.BoolOp .And (b :: rest) pos) k) : DE X W (.BoolOp .And (a :: b :: rest) pos) (eAnd h k) := by
  obtain ⟨t, hp, he⟩ := hh.ex
  obtain ⟨u, kp, ke⟩ := kk.ex
  refine ⟨_, pe_and hp kp, fun B F H r σ Q R p => he.to R p fun d r' v F' H' R' s x q => ?_⟩
  cases d with
  | bl c =>
    refine ⟨c, x, ?_⟩
    cases c with
    | true => exact ke B F' H' r' σ Q R' q
    | false => exact q (.bl false) F' H' R' (Same.refl F') rfl
  | _ => exact q.elim
theorem de_or (hh : DE X W a h) (kk : DE X W (.BoolOp .Or (b :: rest) pos) k) : DE X W (.BoolOp .Or (a :: b :: rest) pos) (eOr h k) := by
  obtain ⟨t, hp, he⟩ := hh.ex
  obtain ⟨u, kp, ke⟩ := kk.ex
  refine ⟨_, pe_or hp kp, fun B F H r σ Q R p => he.to R p fun d r' v F' H' R' s x q => ?_⟩
  cases d with
  | bl c =>
    refine ⟨c, x, ?_⟩
    cases c with
    | true => exact q (.bl true) F' H' R' (Same.refl F') rfl
    | false => exact ke B F' H' r' σ Q R' q
  | _ => exact q.elim
theorem de_not (hh : DE X W a h) : DE X W (.UnaryOp .Not a pos) (eNot h) := by
  obtain ⟨t, hp, he⟩ := hh.ex
  refine ⟨_, pe_not hp, fun B F H r σ Q R p => he.to R p fun d r' v F' H' R' s x q => ?_⟩
  cases d with
  | bl c => exact ⟨c, x, q (.bl (!c)) F' H' R' (Same.refl F') rfl⟩
  | _ => exact q.elim
/-- a if t else b -/
def eIf (t : En → Res (Bool × En)) (f g : En → Res (D × En)) : En → Res (D × En) := fun r => (t r).bind fun p => match p.1 with
  | true => f p.2
  | false => g p.2
theorem de_if {c : Expr} (hc : DT X W c f) (hh : DE X W a h) (kk : DE X W b k) : DE X W (.IfExp c a b pos) (eIf f h k) := by
  obtain ⟨tc, pc, ec⟩ := hc.ex
  obtain ⟨t, hp, he⟩ := hh.ex
  obtain ⟨u, kp, ke⟩ := kk.ex
  refine ⟨_, pe_ifExp pc hp kp, fun B F H r σ Q R p => ec.to R p fun c r' c' F' H' R' s x q => ?_⟩
  cases (show c = c' from x)
  cases c with
  | true => exact he B F' H' r' σ Q R' q
  | false => exact ke B F' H' r' σ Q R' q
/-! ### arguments -/
def aNil : En → Res (List D × En) := fun r => .ok ([], r)
def aCons (f : En → Res (D × En)) (g : En → Res (List D × En)) : En → Res (List D × En) := fun r => (f r).bind fun p => (g p.2).bind fun q => .ok (p.1 :: q.1, q.2)
theorem da_nil : DA X W [] aNil := ⟨_, pa_nil, fun B F H r σ Q R p => p [] F H R (Same.refl F) rfl⟩
theorem da_cons {es : List Expr} {gs : En → Res (List D × En)} (hh : DE X W e h) (hr : DA X W es gs) (hs : starEach (e :: es) X.env = (false, eval e X.env) :: starEach es X.env := by rfl) : DA X W (e :: es) (aCons h gs) := by
  obtain ⟨t, hp, he⟩ := hh.ex
  obtain ⟨u, kp, ke⟩ := hr.ex
  refine ⟨_, pa_cons hp kp hs, fun B F H r σ Q R p => he.to R p fun d r1 v F1 H1 R1 s1 x1 p1 => ?_⟩
  refine ke.to R1 p1 fun ds r2 vs F2 H2 R2 s2 x2 p2 => ?_
  exact p2 (v :: vs) F2 H2 R2 (Same.refl F2) ⟨v, vs, rfl, rep_mono s2 d v x1, x2⟩
/-! ### displays -/
def eLst (f : En → Res (List D × En)) : En → Res (D × En) := fun r => (f r).bind fun p => if p.1.length ≤ 1000 then .ok (.lst p.1, p.2) else .bad
def eTup (f : En → Res (List D × En)) : En → Res (D × En) := fun r => (f r).bind fun p => if p.1.length ≤ 1000 then .ok (.tup p.1, p.2) else .bad
theorem repL_len {K : PySem.W.Frag} {mg : Str → Option Value} {F : Hp} : ∀ {ds : List D} {vs : List V}, repL K mg F ds vs → vs.length = ds.length
  | [], _, h => by
    cases h
    rfl
  | d :: ds, _, h => by
    obtain ⟨w, ws, rfl, _, h⟩ := h
    simp [repL_len h]
theorem dn_lst {es : List Expr} {gs : En → Res (List D × En)} (hr : DA X W es gs) : DN X W (.List es pos) (eLst gs) := by
  obtain ⟨u, kp, ke⟩ := hr.ex
  refine ⟨_, pe_lst kp, fun B F H r σ Q R p => ke.to R p fun ds r2 vs F2 H2 R2 s2 x2 p2 => ?_⟩
  by_cases hz : ds.length ≤ 1000
  · simp only [if_pos hz] at p2
    refine ⟨Nat.le_of_lt (small1000 (by rw [repL_len x2]; exact hz)), fun pa hp => ?_⟩
    exact p2 _ F2 _ (R2.newO hp) (Same.refl F2) ⟨pa, rfl, R2.fh.free hp, (R2.new_ne hp).1, (R2.new_ne hp).2, R2.loose_new hp, vs, upd_same, x2⟩
  · simp only [if_neg hz] at p2
    exact p2.elim
theorem de_tup {es : List Expr} {x1} {gs : En → Res (List D × En)} (hr : DA X W es gs) : DE X W (.Tuple es x1 pos) (eTup gs) := by
  obtain ⟨u, kp, ke⟩ := hr.ex
  refine ⟨_, pe_tup kp, fun B F H r σ Q R p => ke.to R p fun ds r2 vs F2 H2 R2 s2 x2 p2 => ?_⟩
  by_cases hz : ds.length ≤ 1000
  · simp only [if_pos hz] at p2
    refine ⟨Nat.le_of_lt (small1000 (by rw [repL_len x2]; exact hz)), fun pa hp => ?_⟩
    have fp := R2.fh.free hp
    exact p2 _ _ _ (R2.newF hp) (same_new fp) ⟨pa, vs, rfl, SqT.of upd_same, repL_mono (same_new fp) _ _ x2⟩
  · simp only [if_neg hz] at p2
    exact p2.elim
end
end Dl

set_option Elab.async false
set_option linter.all false
set_option maxRecDepth 100000
set_option maxHeartbeats 4000000
namespace Dl
open PySem L2

/-! ### the reading that a denotation asks for -/
def tOf {α β : Type} (K : PySem.W.Frag) (mg : Str → Option Value) (W : WX) (R : RR α β) (f : En → Res (α × En)) : St → Hp → (β → Hp → Prop) → Prop := fun σ H Q => ∃ B F r, Rel K mg B F H r σ ∧ Po K mg W B F σ R Q (f r)
theorem ent_tOf {α β : Type} {K : PySem.W.Frag} {mg : Str → Option Value} {W : WX} {R : RR α β} {f : En → Res (α × En)} : Ent K mg W R (tOf K mg W R f) f := fun B F H r σ Q R1 p => ⟨B, F, r, R1, p⟩
section
variable {X : Cx} {W : WX} {e : Expr}
theorem DE.can {f : En → Res (D × En)} (h : DE X W e f) : PE X e (tOf X.K X.mg W (rE X.K X.mg) f) := by
  obtain ⟨t, hp, he⟩ := h.ex
  exact ⟨fun pins s σ H Q I ⟨B, F, r, R, p⟩ => hp.run pins s σ H Q I (he B F H r σ Q R p)⟩
theorem DT.can {f : En → Res (Bool × En)} (h : DT X W e f) : PT X e (tOf X.K X.mg W rT f) := by
  obtain ⟨t, hp, he⟩ := h.ex
  exact ⟨fun pins s σ H Q I ⟨B, F, r, R, p⟩ => hp.run pins s σ H Q I (he B F H r σ Q R p)⟩
end

/-! ### targets -/
def Off (vs : List Nat) (σ σ' : St) : Prop := σ'.length = σ.length ∧ ∀ i, i ∉ vs → σ'[i]? = σ[i]?
theorem Off.refl {vs : List Nat} {σ : St} : Off vs σ σ := ⟨rfl, fun _ _ => rfl⟩
theorem Off.trans {vs : List Nat} {σ σ1 σ2 : St} (a : Off vs σ σ1) (b : Off vs σ1 σ2) : Off vs σ σ2 := ⟨b.1.trans a.1, fun i h => (b.2 i h).trans (a.2 i h)⟩
theorem Off.set {vs : List Nat} {σ : St} {i : Nat} {ov : Option V} (h : i ∈ vs) : Off vs σ (σ.set i ov) := ⟨List.length_set .., fun j hj => List.getElem?_set_ne (show i ≠ j from fun z => hj (by rw [← z]; exact h))⟩
theorem wipe_get {σ : St} {i : Nat} : ∀ (vs : List Nat), (wipe σ vs)[i]? = if i ∈ vs then (if i < σ.length then some none else none) else σ[i]?
  | [] => by simp [wipe]
  | v :: vs => by
    show ((wipe σ vs).set v none)[i]? = _
    rw [get_set, wipe_length, wipe_get vs]
    by_cases h : v = i
    · subst h
      simp
    · rw [if_neg h]
      have q : (i ∈ v :: vs) ↔ i ∈ vs := by
        simp only [List.mem_cons]
        exact ⟨fun z => z.elim (fun z => absurd z.symm h) id, .inr⟩
      simp only [q]
theorem Off.wipe {vs : List Nat} {σ σ' : St} (h : Off vs σ σ') : L2.wipe σ' vs = L2.wipe σ vs := by
  refine List.ext_getElem? fun i => ?_
  rw [wipe_get, wipe_get, h.1]
  by_cases q : i ∈ vs
  · rw [if_pos q, if_pos q]
  · rw [if_neg q, if_neg q, h.2 i q]
theorem off_wipe {vs : List Nat} {σ : St} : Off vs σ (L2.wipe σ vs) := ⟨wipe_length _ _, fun i h => by rw [wipe_get, if_neg h]⟩
section
variable (K : PySem.W.Frag) (mg : Str → Option Value)
def PoG (W : WX) (B : Bg) (F : Hp) (σ : St) (vs : List Nat) (Q : St → Hp → Prop) : Res En → Prop
  | .ok r' => ∀ σ' F' H', Rel K mg B F' H' r' σ' → Same F F' → Off vs σ σ' → Q σ' H'
  | .er c fs r' => PoX K mg W B F c fs r'
  | .bad => False
def EntG (W : WX) (vs : List Nat) (t : TG) (g : D → En → Res En) : Prop := ∀ B F H r σ d v Q, Rel K mg B F H r σ → rep K mg F d v → PoG K mg W B F σ vs Q (g d r) → t v σ H Q
def EntGs (W : WX) (vs : List Nat) (t : TGs) (g : List D → En → Res En) : Prop := ∀ B F H r σ d v Q, Rel K mg B F H r σ → repL K mg F d v → PoG K mg W B F σ vs Q (g d r) → t v σ H Q
def tOfG (W : WX) (vs : List Nat) (g : D → En → Res En) : TG := fun v σ H Q => ∃ B F r d, Rel K mg B F H r σ ∧ rep K mg F d v ∧ PoG K mg W B F σ vs Q (g d r)
end
structure DG (X : Cx) (W : WX) (tg : Expr) (vs : List Nat) (g : D → En → Res En) : Prop where
  ex : ∃ t, PG X tg t ∧ EntG X.K X.mg W vs t g
structure DGs (X : Cx) (W : WX) (tgs : List Expr) (vs : List Nat) (g : List D → En → Res En) : Prop where
  ex : ∃ t, PGs X tgs t ∧ EntGs X.K X.mg W vs t g
section
variable {K : PySem.W.Frag} {mg : Str → Option Value} {W : WX} {B : Bg} {F F' H H' : Hp} {r : En} {σ : St} {vs : List Nat}
theorem PoG.weak {Q : St → Hp → Prop} {m : Res En} (h : PoG K mg W B F σ vs Q m) (e : Same F F') : PoG K mg W B F' σ vs Q m := by
  cases m with
  | ok p => exact fun b F1 H1 R1 s x => h b F1 H1 R1 (e.trans s) x
  | er c fs r' => exact PoX.weak h e
  | bad => exact h
theorem PoG.off {Q : St → Hp → Prop} {m : Res En} {σ' : St} (h : PoG K mg W B F σ vs Q m) (e : Off vs σ σ') : PoG K mg W B F σ' vs Q m := by
  cases m with
  | ok p => exact fun b F1 H1 R1 s x => h b F1 H1 R1 s (e.trans x)
  | er c fs r' => exact h
  | bad => exact h
end
/-! targets' combinators -/
def gNm (i : Nat) : D → En → Res En := fun d r => .ok (r.set i (some (.fz d)))
def gsNil : List D → En → Res En := fun ds r => match ds with
  | [] => .ok r
  | _ => .bad
def gsCons (g : D → En → Res En) (h : List D → En → Res En) : List D → En → Res En := fun ds r => match ds with
  | d :: ds => (g d r).bind fun r1 => h ds r1
  | [] => .bad
def gTp (n : Nat) (h : List D → En → Res En) : D → En → Res En := fun d r => match d with
  | .tup ds => if ds.length = n then h ds r else .bad
  | _ => .bad
section
variable {X : Cx} {W : WX} {vs : List Nat} {pos : Pos}
theorem DG.can {tg : Expr} {g : D → En → Res En} (h : DG X W tg vs g) : PG X tg (tOfG X.K X.mg W vs g) := by
  obtain ⟨t, hp, he⟩ := h.ex
  exact ⟨fun pins s σ H v u Q I rv ⟨B, F, r, d, R, rp, p⟩ => hp.run pins s σ H v u Q I rv (he B F H r σ d v Q R rp p)⟩
theorem dg_name {i : Nat} {x : Str} (hv : i ∈ vs) (hN : X.N.Nodup) (hi : X.N[i]? = some x := by rfl) (hx : Loc X.env.scope x := by first | exact .inl rfl | exact .inr rfl) (hf : X.fn x = true ∨ X.env.scope.names.lookup x = some .local := by first | exact .inl rfl | exact .inr rfl) : DG X W (.Name x pos) vs (gNm i) :=
  ⟨_, pg_name hN hi hx hf, fun B F H r σ d v Q R rp p => p _ F H (R.setF rp) (Same.refl F) (Off.set hv)⟩
theorem dgs_nil : DGs X W [] vs gsNil := by
  refine ⟨_, pgs_nil, fun B F H r σ d v Q R rp p => ?_⟩
  cases d with
  | nil => exact ⟨rp, p _ F H R (Same.refl F) Off.refl⟩
  | cons d ds => exact p.elim
theorem dgs_cons {e : Expr} {es : List Expr} {g : D → En → Res En} {h : List D → En → Res En} (h1 : DG X W e vs g) (h2 : DGs X W es vs h)
    (hs : (assignEach (e :: es) X.env).map (·.2) = assign e X.env :: (assignEach es X.env).map (·.2) := by rfl) : DGs X W (e :: es) vs (gsCons g h) := by
  obtain ⟨t, hp, he⟩ := h1.ex
  obtain ⟨u, kp, ke⟩ := h2.ex
  refine ⟨_, pgs_cons hp kp hs, fun B F H r σ d v Q R rp p => ?_⟩
  cases d with
  | nil => exact p.elim
  | cons d ds =>
    obtain ⟨w, ws, rfl, r1, r2⟩ := rp
    refine ⟨w, ws, rfl, he B F H r σ d w _ R r1 ?_⟩
    have p' : PoG X.K X.mg W B F σ vs Q ((g d r).bind fun r1 => h ds r1) := p
    cases q : g d r with
    | ok r' =>
      rw [q] at p'
      exact fun σ' F' H' R' s o => ke B F' H' r' σ' ds ws Q R' (repL_mono s _ _ r2) ((PoG.weak p' s).off o)
    | er c fs r' =>
      rw [q] at p'
      exact p'
    | bad =>
      rw [q] at p'
      exact p'
theorem dg_tup {es : List Expr} {k : Nat} {h : List D → En → Res En} {n : Nat} (hc : X.calm = true) (hh : DGs X W es vs h) (hn : (assignEach es X.env).length = n := by rfl) (hst : (assignEach es X.env).findIdx? (·.1) = none := by rfl) :
    DG X W (.Tuple es k pos) vs (gTp n h) := by
  obtain ⟨t, hp, he⟩ := hh.ex
  refine ⟨_, pg_tup hc hp hn hst, fun B F H r σ d v Q R rp p => ?_⟩
  cases d with
  | tup ds =>
    obtain ⟨a, xs, e1, hq, rl⟩ := rp
    have p' : PoG X.K X.mg W B F σ vs Q (if ds.length = n then h ds r else .bad) := p
    by_cases z : ds.length = n
    · rw [if_pos z] at p'
      exact ⟨a, xs, e1, sqT_mono R.fh hq, by rw [repL_len rl]; exact z, he B F H r σ ds xs Q R rl p'⟩
    · rw [if_neg z] at p'
      exact p'.elim
  | _ => exact p.elim
end

/-! ### statements -/
inductive SR where
  | nx (r : En) | rt (d : D) (r : En) | bk (r : En) | ct (r : En) | er (c : Str) (fs : List (Str × D)) (r : En) | bad
section
variable (K : PySem.W.Frag) (mg : Str → Option Value)
def PoS (W : WX) (B : Bg) (F : Hp) (Z : Ends) : SR → Prop
  | .nx r' => ∀ σ' F' H', Rel K mg B F' H' r' σ' → Same F F' → Z.nx σ' H'
  | .rt d r' => ∀ v σ' F' H', Rel K mg B F' H' r' σ' → Same F F' → rep K mg F' d v → Z.rt v H'
  | .bk r' => ∀ σ' F' H', Rel K mg B F' H' r' σ' → Same F F' → Z.bk σ' H'
  | .ct r' => ∀ σ' F' H', Rel K mg B F' H' r' σ' → Same F F' → Z.ct σ' H'
  | .er c fs r' => PoX K mg W B F c fs r'
  | .bad => False
def EntS (W : WX) (t : TS) (f : En → SR) : Prop := ∀ B F H r σ Z, Rel K mg B F H r σ → PoS K mg W B F Z (f r) → t Z σ H
end
structure DS (X : Cx) (W : WX) (st : Stmt) (f : En → SR) : Prop where
  ex : ∃ t, PS X st t ∧ EntS X.K X.mg W t f
structure DSs (X : Cx) (W : WX) (st : List Stmt) (f : En → SR) : Prop where
  ex : ∃ t, PSs X st t ∧ EntS X.K X.mg W t f
/-- an evaluation, then a statement's end -/
def sBind {α : Type} (m : Res α) (k : α → SR) : SR := match m with
  | .ok a => k a
  | .er c fs r => .er c fs r
  | .bad => .bad
section
variable {K : PySem.W.Frag} {mg : Str → Option Value} {W : WX} {B : Bg} {F F' H H' : Hp} {r : En} {σ : St} {Z : Ends}
theorem PoS.weak {m : SR} (h : PoS K mg W B F Z m) (e : Same F F') : PoS K mg W B F' Z m := by
  cases m with
  | nx r' => exact fun σ' F1 H1 R1 s => h σ' F1 H1 R1 (e.trans s)
  | rt d r' => exact fun v σ' F1 H1 R1 s => h v σ' F1 H1 R1 (e.trans s)
  | bk r' => exact fun σ' F1 H1 R1 s => h σ' F1 H1 R1 (e.trans s)
  | ct r' => exact fun σ' F1 H1 R1 s => h σ' F1 H1 R1 (e.trans s)
  | er c fs r' => exact PoX.weak h e
  | bad => exact h
theorem Ent.toS {α β : Type} {R : RR α β} {t : St → Hp → (β → Hp → Prop) → Prop} {f : En → Res (α × En)} {k : α × En → SR} {Q1 : β → Hp → Prop} (h : Ent K mg W R t f) (R1 : Rel K mg B F H r σ)
    (p : PoS K mg W B F Z (sBind (f r) k)) (c : ∀ a r' b F' H', Rel K mg B F' H' r' σ → Same F F' → R B σ r' F' H' a b → PoS K mg W B F' Z (k (a, r')) → Q1 b H') : t σ H Q1 := by
  refine h B F H r σ Q1 R1 ?_
  cases q : f r with
  | ok a =>
    obtain ⟨a, r'⟩ := a
    rw [q] at p
    exact fun b F1 H1 R1 s x => c a r' b F1 H1 R1 s x (PoS.weak (show PoS K mg W B F Z (k (a, r')) from p) s)
  | er c fs r' =>
    rw [q] at p
    exact p
  | bad =>
    rw [q] at p
    exact p
end
def sNop : En → SR := .nx
def sSeq (f g : En → SR) : En → SR := fun r => match f r with
  | .nx r' => g r'
  | x => x
def sRet (f : En → Res (D × En)) : En → SR := fun r => sBind (f r) fun p => .rt p.1 p.2
def sExpr (f : En → Res (D × En)) : En → SR := fun r => sBind (f r) fun p => .nx p.2
def sIf (t : En → Res (Bool × En)) (f g : En → SR) : En → SR := fun r => sBind (t r) fun p => match p.1 with
  | true => f p.2
  | false => g p.2
def sAsg (f : En → Res (D × En)) (g : D → En → Res En) : En → SR := fun r => sBind (f r) fun p => sBind (g p.1 p.2) .nx
def sSet (i : Nat) (f : En → Res (D × En)) : En → SR := fun r => sBind (f r) fun p => .nx (p.2.set i (some (.fz p.1)))
def sOwn (i : Nat) (f : En → Res (D × En)) : En → SR := fun r => sBind (f r) fun p => .nx (p.2.set i (some (.ow p.1)))
section
variable {X : Cx} {W : WX} {st : Stmt} {rest : List Stmt} {f g : En → SR} {e : Expr} {pos : Pos} {h : En → Res (D × En)}
theorem DSs.can {sts : List Stmt} (hh : DSs X W sts f) : ∃ t, PSs X sts t ∧ EntS X.K X.mg W t f := hh.ex
theorem dss_nil : DSs X W [] sNop := ⟨_, pss_nil, fun B F H r σ Z R p => p σ F H R (Same.refl F)⟩
theorem dss_one (h1 : DS X W st f) : DSs X W [st] f := by
  obtain ⟨t, hp, he⟩ := h1.ex
  exact ⟨t, pss_one hp, he⟩
theorem dss_cons (h1 : DS X W st f) (h2 : DSs X W rest g) : DSs X W (st :: rest) (sSeq f g) := by
  obtain ⟨t, hp, he⟩ := h1.ex
  obtain ⟨u, kp, ke⟩ := h2.ex
  refine ⟨_, pss_cons hp kp, fun B F H r σ Z R p => he B F H r σ _ R ?_⟩
  have p' : PoS X.K X.mg W B F Z (match f r with | .nx r' => g r' | x => x) := p
  cases q : f r with
  | nx r' =>
    rw [q] at p'
    exact fun σ' F' H' R' s => ke B F' H' r' σ' Z R' (PoS.weak p' s)
  | rt d r' =>
    rw [q] at p'
    exact p'
  | bk r' =>
    rw [q] at p'
    exact p'
  | ct r' =>
    rw [q] at p'
    exact p'
  | er c fs r' =>
    rw [q] at p'
    exact p'
  | bad =>
    rw [q] at p'
    exact p'
theorem ds_pass : DS X W (.Pass pos) sNop := ⟨_, ps_pass, fun B F H r σ Z R p => p σ F H R (Same.refl F)⟩
theorem ds_break : DS X W (.Break pos) .bk := ⟨_, ps_break, fun B F H r σ Z R p => p σ F H R (Same.refl F)⟩
theorem ds_continue : DS X W (.Continue pos) .ct := ⟨_, ps_continue, fun B F H r σ Z R p => p σ F H R (Same.refl F)⟩
theorem ds_never : DS X W st (fun _ => .bad) := ⟨_, ps_never, fun B F H r σ Z R p => p⟩
theorem dss_never {sts : List Stmt} : DSs X W sts (fun _ => .bad) := ⟨_, pss_never, fun B F H r σ Z R p => p⟩
theorem ds_ret (hh : DE X W e h) : DS X W (.Return (some e) pos) (sRet h) := by
  obtain ⟨t, hp, he⟩ := hh.ex
  exact ⟨_, ps_ret hp, fun B F H r σ Z R p => he.toS R p fun d r' v F' H' R' s x q => q v σ F' H' R' (Same.refl F') x⟩
theorem ds_retN : DS X W (.Return none pos) (fun r => .rt .non r) := ⟨_, ps_retN, fun B F H r σ Z R p => p .non σ F H R (Same.refl F) rfl⟩
theorem ds_expr (hh : DE X W e h) (hs : swapsWith e none pos.line X.env = pure false := by rfl) : DS X W (.Expr e pos) (sExpr h) := by
  obtain ⟨t, hp, he⟩ := hh.ex
  exact ⟨_, ps_expr hp hs, fun B F H r σ Z R p => he.toS R p fun d r' v F' H' R' s x q => q σ F' H' R' (Same.refl F')⟩
theorem ds_if {c : Expr} {a b : List Stmt} {t : En → Res (Bool × En)} (hc : DT X W c t) (ha : DSs X W a f) (hb : DSs X W b g) : DS X W (.If c a b pos) (sIf t f g) := by
  obtain ⟨tc, pc, ec⟩ := hc.ex
  obtain ⟨ta, pa, ea⟩ := ha.ex
  obtain ⟨tb, pb, eb⟩ := hb.ex
  refine ⟨_, ps_if pc pa pb, fun B F H r σ Z R p => ec.toS R p fun c r' c' F' H' R' s x q => ?_⟩
  cases (show c = c' from x)
  cases c with
  | true => exact ea B F' H' r' σ Z R' q
  | false => exact eb B F' H' r' σ Z R' q
theorem ds_set {i : Nat} {x : Str} {pos' : Pos} (hN : X.N.Nodup) (hh : DE X W e h) (hi : X.N[i]? = some x := by rfl) (hx : Loc X.env.scope x := by first | exact .inl rfl | exact .inr rfl) (hs : swapsWith e (some (.Name x pos')) pos.line X.env = pure false := by rfl)
    (hf : X.fn x = true ∨ X.env.scope.names.lookup x = some .local := by first | exact .inl rfl | exact .inr rfl) : DS X W (.Assign [.Name x pos'] e pos) (sSet i h) := by
  obtain ⟨t, hp, he⟩ := hh.ex
  exact ⟨_, ps_set hN hi hx hp hs hf, fun B F H r σ Z R p => he.toS R p fun d r' v F' H' R' s x q => q _ F' H' (R'.setF x) (Same.refl F')⟩
theorem ds_own {i : Nat} {x : Str} {pos' : Pos} (hN : X.N.Nodup) (hh : DN X W e h) (hi : X.N[i]? = some x := by rfl) (hx : Loc X.env.scope x := by first | exact .inl rfl | exact .inr rfl) (hs : swapsWith e (some (.Name x pos')) pos.line X.env = pure false := by rfl)
    (hf : X.fn x = true ∨ X.env.scope.names.lookup x = some .local := by first | exact .inl rfl | exact .inr rfl) : DS X W (.Assign [.Name x pos'] e pos) (sOwn i h) := by
  obtain ⟨t, hp, he⟩ := hh.ex
  refine ⟨_, ps_set hN hi hx hp hs hf, fun B F H r σ Z R p => he.toS R p fun d r' v F' H' R' s x q => ?_⟩
  obtain ⟨pa, rfl, h1, h2, h3, h4, h5⟩ := x
  exact q _ F' H' (R'.setS h1 h2 h3 h4 h5) (Same.refl F')
theorem ds_asg {tg : Expr} {vs : List Nat} {gg : D → En → Res En} (hh : DE X W e h) (hg : DG X W tg vs gg) (hs : swapsWithSole [tg] e pos.line X.env = pure false := by rfl) (hw : swappedStores [tg] e X.env = pure none := by rfl)
    (h1 : (assignEach [tg] X.env).map (·.2) = [assign tg X.env] := by rfl) : DS X W (.Assign [tg] e pos) (sAsg h gg) := by
  obtain ⟨t, hp, he⟩ := hh.ex
  obtain ⟨u, kp, ke⟩ := hg.ex
  refine ⟨_, ps_asg hp kp hs hw h1, fun B F H r σ Z R p => he.toS R p fun d r' v F' H' R' s x q => ke B F' H' r' σ d v _ R' x ?_⟩
  cases z : gg d r' with
  | ok r2 =>
    simp only [z, sBind] at q
    exact fun σ' F2 H2 R2 s2 _ => q σ' F2 H2 R2 s2
  | er c fs r2 =>
    simp only [z, sBind] at q
    exact q
  | bad =>
    simp only [z, sBind] at q
    exact q
end

/-! ### what is walked -/
section
variable (K : PySem.W.Frag) (mg : Str → Option Value)
/-- J gives the items ds, whatever frozen or new things come meanwhile -/
def Wk (F : Hp) (ds : List D) (J : It) : Prop := ∀ F' H', Same F F' → Same F' H' → (∀ i d, ds[i]? = some d → J.go i H' ∧ ∀ x H'', J.yld i H' x H'' → ∃ F'', Same F' F'' ∧ Same H' H'' ∧ Same F'' H'' ∧ (∀ a, F' a = none → H' a ≠ none → F'' a = none) ∧ rep K mg F'' d x) ∧ J.stop ds.length H'
def rI : RR (List D) It := fun _ _ _ F _ ds J => Wk K mg F ds J
end
structure DI (X : Cx) (W : WX) (tg iter : Expr) (f : En → Res (List D × En)) : Prop where
  ex : ∃ t, PI X tg iter t ∧ Ent X.K X.mg W (rI X.K X.mg) t f
theorem DI.can {X : Cx} {W : WX} {tg iter : Expr} {f : En → Res (List D × En)} (h : DI X W tg iter f) : PI X tg iter (tOf X.K X.mg W (rI X.K X.mg) f) := by
  obtain ⟨t, hp, he⟩ := h.ex
  exact ⟨fun pins s σ H Q I ⟨B, F, r, R, p⟩ => hp.run pins s σ H Q I (he B F H r σ Q R p)⟩

/-! ### for -/
def forD (g : D → En → Res En) (b : En → SR) : List D → En → SR
  | [], r => .nx r
  | d :: ds, r => sBind (g d r) fun r1 => match b r1 with
    | .nx r2 => forD g b ds r2
    | .ct r2 => forD g b ds r2
    | .bk r2 => .nx r2
    | x => x
def sFor (s : En → Res (List D × En)) (g : D → En → Res En) (b : En → SR) : En → SR := fun r => sBind (s r) fun p => forD g b p.1 p.2
section
variable {X : Cx} {W : WX} {pos : Pos}
theorem for_ent {wi : TI} {gt : TG} {tb : TS} {s : En → Res (List D × En)} {vs : List Nat} {g : D → En → Res En} {b : En → SR} (hi : Ent X.K X.mg W (rI X.K X.mg) wi s) (hg : EntG X.K X.mg W vs gt g) (hb : EntS X.K X.mg W tb b) : EntS X.K X.mg W (tFor wi gt tb) (sFor s g b) := by
  intro B F H r σ Z R p
  refine hi.toS R p fun ds r1 J F1 H1 R1 s1 wk p1 => ?_
  refine ⟨fun i m σ' H' => m = ds.length - i ∧ i ≤ ds.length ∧ ∃ F' r', Rel X.K X.mg B F' H' r' σ' ∧ Same F1 F' ∧ PoS X.K X.mg W B F' Z (forD g b (ds.drop i) r'), ⟨ds.length, by simp, Nat.zero_le _, F1, r1, R1, Same.refl F1, by simpa using p1⟩, ?_⟩
  rintro i m σ' H' ⟨rfl, hle, F', r', R', s', p'⟩
  obtain ⟨w1, w2⟩ := wk F' H' s' R'.fh
  by_cases hlt : i < ds.length
  · have e : ds[i]? = some ds[i] := List.getElem?_eq_getElem hlt
    obtain ⟨go, yl⟩ := w1 i _ e
    rw [List.drop_eq_getElem_cons hlt] at p'
    refine .inr ⟨go, fun σ2 H2 => ∃ F2 r2, Rel X.K X.mg B F2 H2 r2 σ2 ∧ Same F1 F2 ∧ PoS X.K X.mg W B F2 Z (forD g b (ds.drop (i + 1)) r2), fun σ2 H2 ⟨F2, r2, R2, s2, p2⟩ => ⟨ds.length - (i + 1), by omega, rfl, hlt, F2, r2, R2, s2, p2⟩, fun x H'' y => ?_⟩
    obtain ⟨F'', f1, f2, f3, f4, f5⟩ := yl x H'' y
    have R'' := R'.grow f2 f1 f3 f4
    refine hg B F'' H'' r' σ' _ x _ R'' f5 ?_
    have p2 := PoS.weak p' f1
    unfold forD at p2
    cases q : g ds[i] r' with
    | ok r2 =>
      simp only [q, sBind] at p2
      intro σ2 F2 H2 R2 s2 _
      refine hb B F2 H2 r2 σ2 _ R2 ?_
      have p3 := PoS.weak p2 s2
      cases q2 : b r2 with
      | nx r3 =>
        simp only [q2] at p3
        exact fun σ3 F3 H3 R3 s3 => ⟨F3, r3, R3, ((s'.trans f1).trans s2).trans s3, PoS.weak p3 s3⟩
      | ct r3 =>
        simp only [q2] at p3
        exact fun σ3 F3 H3 R3 s3 => ⟨F3, r3, R3, ((s'.trans f1).trans s2).trans s3, PoS.weak p3 s3⟩
      | bk r3 =>
        simp only [q2] at p3
        exact p3
      | rt d r3 =>
        simp only [q2] at p3
        exact p3
      | er c fs r3 =>
        simp only [q2] at p3
        exact p3
      | bad =>
        simp only [q2] at p3
        exact p3
    | er c fs r2 =>
      simp only [q, sBind] at p2
      exact p2
    | bad =>
      simp only [q, sBind] at p2
      exact p2
  · have e : i = ds.length := by omega
    subst e
    rw [List.drop_length] at p'
    exact .inl ⟨w2, p' σ' F' H' R' (Same.refl F')⟩
theorem ds_for {tg iter : Expr} {body : List Stmt} {s : En → Res (List D × En)} {vs : List Nat} {g : D → En → Res En} {b : En → SR} (hp : PassesOwn (model X.prog X.w) X.A X.env X.xe) (hc : X.calm = true) (hi : DI X W tg iter s) (hg : DG X W tg vs g) (hb : DSs X W body b)
    (hs : ∀ x, foldedSetIterable iter X.env x = pure x := by intro _; rfl) : DS X W (.For tg iter body [] pos) (sFor s g b) := by
  obtain ⟨ti, pi, ei⟩ := hi.ex
  obtain ⟨tg', pg, eg⟩ := hg.ex
  obtain ⟨tb, pb, eb⟩ := hb.ex
  exact ⟨_, ps_for hp hc pi pg pb hs, for_ent ei eg eb⟩
/-! ### while -/
def whileD (t : En → Res (Bool × En)) (b : En → SR) : Nat → En → SR
  | 0, _ => .bad
  | n + 1, r => sBind (t r) fun p => match p.1 with
    | true => (match b p.2 with
      | .nx r2 => whileD t b n r2
      | .ct r2 => whileD t b n r2
      | .bk r2 => .nx r2
      | x => x)
    | false => .nx p.2
def sWhile (n : Nat) (t : En → Res (Bool × En)) (b : En → SR) : En → SR := whileD t b n
theorem ds_while {c : Expr} {body : List Stmt} {t : En → Res (Bool × En)} {b : En → SR} (n : Nat) (hp : PassesOwn (model X.prog X.w) X.A X.env X.xe) (hc : DT X W c t) (hb : DSs X W body b) : DS X W (.While c body [] pos) (sWhile n t b) := by
  obtain ⟨tc, pc, ec⟩ := hc.ex
  obtain ⟨tb, pb, eb⟩ := hb.ex
  refine ⟨_, ps_while hp pc pb, fun B F H r σ Z R p => ?_⟩
  refine ⟨fun m σ' H' => ∃ F' r', Rel X.K X.mg B F' H' r' σ' ∧ PoS X.K X.mg W B F' Z (whileD t b m r'), ⟨n, F, r, R, p⟩, ?_⟩
  rintro m σ' H' ⟨F', r', R', p'⟩
  cases m with
  | zero => exact (show False from p').elim
  | succ m =>
    refine ec.toS (k := fun p => match p.1 with
      | true => (match b p.2 with
        | .nx r2 => whileD t b m r2
        | .ct r2 => whileD t b m r2
        | .bk r2 => .nx r2
        | x => x)
      | false => .nx p.2) R' p' fun c r1 c' F1 H1 R1 s1 x p1 => ?_
    cases (show c = c' from x)
    cases c with
    | true =>
      simp only at p1
      rw [if_pos rfl]
      refine ⟨fun σ2 H2 => ∃ F2 r2, Rel X.K X.mg B F2 H2 r2 σ2 ∧ PoS X.K X.mg W B F2 Z (whileD t b m r2), fun σ2 H2 ⟨F2, r2, R2, p2⟩ => ⟨m, Nat.lt_succ_self m, F2, r2, R2, p2⟩, ?_⟩
      refine eb B F1 H1 r1 σ' _ R1 ?_
      cases q2 : b r1 with
      | nx r3 =>
        simp only [q2] at p1
        exact fun σ3 F3 H3 R3 s3 => ⟨F3, r3, R3, PoS.weak p1 s3⟩
      | ct r3 =>
        simp only [q2] at p1
        exact fun σ3 F3 H3 R3 s3 => ⟨F3, r3, R3, PoS.weak p1 s3⟩
      | bk r3 =>
        simp only [q2] at p1
        exact p1
      | rt d r3 =>
        simp only [q2] at p1
        exact p1
      | er c fs r3 =>
        simp only [q2] at p1
        exact p1
      | bad =>
        simp only [q2] at p1
        exact p1
    | false =>
      simp only at p1
      rw [if_neg Bool.false_ne_true]
      exact p1 σ' F1 H1 R1 (Same.refl F1)
end
end Dl

set_option Elab.async false
set_option linter.all false
set_option maxRecDepth 100000
set_option maxHeartbeats 4000000
namespace Dl
open PySem L2

/-! ### an object of one's own, kept while other things are evaluated -/
def Bg.guard (B : Bg) (p : Addr) (o : HO) : Bg := { B with H := upd B.H p o }
section
variable {K : PySem.W.Frag} {mg : Str → Option Value} {B : Bg} {F F' H H' : Hp} {r : En} {σ : St} {p : Addr} {o : HO}
theorem Rel.guard (R : Rel K mg B F H r σ) (hp : H p = some o) (hF : F p = none) (hB : B.H p = none) (hb : p ∉ B.bs) (hl : Loose H r σ p) : Rel K mg (B.guard p o) F H r σ where
  fh := R.fh
  f0 := R.f0
  keep := fun a u ha h => by
    have h' : upd B.H p o a = some u := h
    by_cases q : a = p
    · rw [q, upd_same] at h'
      rw [q]
      exact hp.trans h'
    · rw [upd_ne q] at h'
      exact R.keep a u ha h'
  fresh := fun a h1 h2 => by
    have h2' : upd B.H p o a ≠ none := h2
    by_cases q : a = p
    · rw [q]
      exact hF
    · rw [upd_ne q] at h2'
      exact R.fresh a h1 h2'
  live := fun a ha => by
    obtain ⟨h1, h2⟩ := R.live a ha
    refine ⟨h1, ?_⟩
    show upd B.H p o a ≠ none
    rw [upd_ne fun z => hb (by rw [← z]; exact ha)]
    exact h2
  len := R.len
  slot := fun i s h => by
    have q := R.slot i s h
    cases s with
    | fz d => exact q
    | ow d =>
      obtain ⟨p', e', hA, nd, h4⟩ := q
      refine ⟨p', e', fun a ha => ?_, nd, h4⟩
      obtain ⟨h1, h2, h3⟩ := hA a ha
      refine ⟨h1, ?_, h3⟩
      show upd B.H p o a = none
      rw [upd_ne fun z => hl i _ p' h rfl e' (by rw [← z]; exact ha)]
      exact h2
    | bo d =>
      obtain ⟨p', e', hd, hA, nd, h4⟩ := q
      refine ⟨p', e', hd, fun a ha => ?_, nd, h4⟩
      obtain ⟨h1, h2⟩ := hA a ha
      refine ⟨h1, h2.imp id fun z => ?_⟩
      show upd B.H p o a = none
      rw [upd_ne fun w => hl i _ p' h rfl e' (by rw [← w]; exact ha)]
      exact z
  apart := R.apart
theorem Rel.unguard (R : Rel K mg (B.guard p o) F H r σ) (hB : B.H p = none) (hb : p ∉ B.bs) (hf : B.F p = none) : Rel K mg B F H r σ ∧ H p = some o ∧ F p = none ∧ Loose H r σ p := by
  have hp : H p = some o := R.keep p o hb (show upd B.H p o p = some o from upd_same)
  have hF : F p = none := R.fresh p hf (by show upd B.H p o p ≠ none; rw [upd_same]; exact fun z => nomatch z)
  have back : ∀ a, upd B.H p o a = none → B.H a = none := fun a z => by
    by_cases q : a = p
    · rw [q]; exact hB
    · rw [upd_ne q] at z
      exact z
  refine ⟨⟨R.fh, R.f0, fun a u ha h => R.keep a u ha ?_, fun a h1 h2 => R.fresh a h1 ?_, fun a ha => ?_, R.len, fun i s h => ?_, R.apart⟩, hp, hF, fun i s q h m e ha => ?_⟩
  · show upd B.H p o a = some u
    rw [upd_ne (ne_of_none h hB)]
    exact h
  · show upd B.H p o a ≠ none
    by_cases q : a = p
    · rw [q, upd_same]
      exact fun z => nomatch z
    · rw [upd_ne q]
      exact h2
  · obtain ⟨h1, h2⟩ := R.live a ha
    refine ⟨h1, ?_⟩
    have h2' : upd B.H p o a ≠ none := h2
    rw [upd_ne fun z => hb (by rw [← z]; exact ha)] at h2'
    exact h2'
  · have q := R.slot i s h
    cases s with
    | fz d => exact q
    | ow d =>
      obtain ⟨p', e', hA, nd, h4⟩ := q
      exact ⟨p', e', fun a ha => ⟨(hA a ha).1, back a (hA a ha).2.1, (hA a ha).2.2⟩, nd, h4⟩
    | bo d =>
      obtain ⟨p', e', hd, hA, nd, h4⟩ := q
      exact ⟨p', e', hd, fun a ha => ⟨(hA a ha).1, (hA a ha).2.imp id (back a)⟩, nd, h4⟩
  · rcases ((R.own_at h m e).1 p ha).2 with z | z
    · exact hb z
    · have z' : upd B.H p o p = none := z
      rw [upd_same] at z'
      cases z'
/-- .. and changed by oneself -/
theorem Rel.poke {o' : HO} (R : Rel K mg B F H r σ) (hF : F p = none) (hB : B.H p = none) (hb : p ∉ B.bs) (hl : Loose H r σ p) : Rel K mg B F (upd H p o') r σ where
  fh := fun a u e => by
    rw [upd_ne (ne_of_none e hF)]
    exact R.fh _ _ e
  f0 := R.f0
  keep := fun a u ha h => by
    rw [upd_ne (ne_of_none h hB)]
    exact R.keep a u ha h
  fresh := R.fresh
  live := fun a ha => by
    obtain ⟨h1, h2⟩ := R.live a ha
    refine ⟨?_, h2⟩
    rw [upd_ne fun z => hb (by rw [← z]; exact ha)]
    exact h1
  len := R.len
  slot := fun i s h => (R.slot i s h).mono (Same.refl F) fun m q e a ha => ⟨upd_ne fun z => hl i s q h m e (by rw [← z]; exact ha), id⟩
  apart := fun i j s t p1 q1 ne hi hj ms mt ei ej a ha => by
    rw [fp_eq (upd_ne (hl.ne hi ms ei))] at ha
    rw [fp_eq (upd_ne (hl.ne hj mt ej))]
    exact R.apart i j s t p1 q1 ne hi hj ms mt ei ej a ha
end

/-! ### comprehensions -/
def noX {α : Type} : Res α → Res α
  | .ok a => .ok a
  | _ => .bad
def wipeE (r : En) : List Nat → En
  | [] => r
  | v :: vs => (wipeE r vs).set v none
def restore (r1 : En) : List Nat → En → En
  | [], r => r
  | v :: vs, r => match r1[v]? with
    | some (some (.fz d)) => (restore r1 vs r).set v (some (.fz d))
    | _ => restore r1 vs r
section
variable {K : PySem.W.Frag} {mg : Str → Option Value} {B : Bg} {F F' H H' F1 H1 : Hp} {r r1 : En} {σ : St} {p : Addr} {o : HO}
theorem wipeE_length (r : En) : ∀ vs, (wipeE r vs).length = r.length
  | [] => rfl
  | v :: vs => by
    show ((wipeE r vs).set v none).length = _
    rw [List.length_set, wipeE_length r vs]
theorem wipeE_some {i : Nat} {s : Sl} : ∀ {vs : List Nat}, (wipeE r vs)[i]? = some (some s) → i ∉ vs
  | [], h => by simp
  | v :: vs, h => by
    have h' : ((wipeE r vs).set v none)[i]? = some (some s) := h
    rw [get_set] at h'
    by_cases q : v = i
    · rw [if_pos q] at h'
      split at h' <;> cases h'
    · rw [if_neg q] at h'
      have z := wipeE_some h'
      simp only [List.mem_cons, not_or]
      exact ⟨fun w => q w.symm, z⟩
theorem Rel.wipe (R : Rel K mg B F H r σ) : ∀ vs, Rel K mg B F H (wipeE r vs) (L2.wipe σ vs)
  | [] => R
  | v :: vs => (R.wipe vs).drop
theorem Rel.unwipe {vs : List Nat} (R : Rel K mg B F H (wipeE r vs) (L2.wipe σ vs)) : Rel K mg B F H (wipeE r vs) σ where
  fh := R.fh
  f0 := R.f0
  keep := R.keep
  fresh := R.fresh
  live := R.live
  len := by
    have h := R.len
    rw [wipe_length] at h
    exact h
  slot := fun i s h => by
    have q := R.slot i s h
    have n := wipeE_some h
    rw [wipe_get, if_neg n] at q
    exact q
  apart := fun i j s t p' q' ne hi hj ms mt ei ej => by
    have n1 := wipeE_some hi
    have n2 := wipeE_some hj
    exact R.apart i j s t p' q' ne hi hj ms mt (by rw [wipe_get, if_neg n1]; exact ei) (by rw [wipe_get, if_neg n2]; exact ej)
theorem Rel.restore (R1 : Rel K mg B F1 H1 r1 σ) (s : Same F1 F) : ∀ (vs : List Nat) (r : En), Rel K mg B F H r σ → Rel K mg B F H (restore r1 vs r) σ
  | [], r, R => R
  | v :: vs, r, R => by
    have R2 := Rel.restore R1 s vs r R
    unfold Dl.restore
    split
    · rename_i d e
      obtain ⟨v', e', h'⟩ := R1.slot v _ e
      have R3 := R2.setF (i := v) (rep_mono s d v' h')
      have es : σ.set v (some v') = σ := by
        refine List.ext_getElem? fun j => ?_
        rw [get_set]
        by_cases q : v = j
        · subst q
          have hlt := (List.getElem?_eq_some_iff.mp e').1
          rw [if_pos rfl, if_pos hlt, e']
        · rw [if_neg q]
      rw [es] at R3
      exact R3
    · exact R2
theorem repL_snoc {d : D} {v : V} : ∀ {ds : List D} {vs : List V}, repL K mg F ds vs → rep K mg F d v → repL K mg F (ds ++ [d]) (vs ++ [v])
  | [], _, h, h' => by
    cases h
    exact ⟨v, [], rfl, h', rfl⟩
  | e :: ds, _, h, h' => by
    obtain ⟨w, ws, rfl, h1, h2⟩ := h
    exact ⟨w, ws ++ [v], rfl, h1, repL_snoc h2 h'⟩
end
def lcLoop (g : D → En → Res En) (t : En → Res (Bool × En)) (e : En → Res (D × En)) (vs : List Nat) : List D → En → List D → Res (List D × En)
  | [], r, acc => .ok (acc, r)
  | d :: ds, r, acc => (noX (g d r)).bind fun r1 => (noX (t r1)).bind fun p => match p.1 with
    | true => (noX (e p.2)).bind fun q => lcLoop g t e vs ds (wipeE q.2 vs) (acc ++ [q.1])
    | false => lcLoop g t e vs ds (wipeE p.2 vs) acc
def eLc (s : En → Res (List D × En)) (g : D → En → Res En) (t : En → Res (Bool × En)) (e : En → Res (D × En)) (vs : List Nat) : En → Res (D × En) := fun r =>
  (s r).bind fun p => if p.1.length ≤ 100000 then (noX (lcLoop g t e vs p.1 (wipeE p.2 vs) [])).bind fun q => .ok (.lst q.1, restore p.2 vs q.2) else .bad
abbrev W0 : WX := fun _ _ _ _ => False
structure DTs (X : Cx) (W : WX) (ifs : List Expr) (f : En → Res (Bool × En)) : Prop where
  ex : ∃ t, PTs X ifs t ∧ Ent X.K X.mg W rT t f
def tYesD : En → Res (Bool × En) := fun r => .ok (true, r)
theorem sl100k {n : Nat} (h : n < 100000) : n < sizeLine := Nat.lt_of_lt_of_le h (by decide)
section
variable {X : Cx} {W : WX} {pos : Pos}
theorem dts_nil : DTs X W [] tYesD := ⟨_, pts_nil, fun B F H r σ Q R p => p true F H R (Same.refl F) rfl⟩
theorem dts_one {c : Expr} {f : En → Res (Bool × En)} (h : DT X W c f) : DTs X W [c] f := by
  obtain ⟨t, hp, he⟩ := h.ex
  exact ⟨t, pts_one hp, he⟩
theorem DTs.can {ifs : List Expr} {f : En → Res (Bool × En)} (h : DTs X W ifs f) : PTs X ifs (tOf X.K X.mg W rT f) := by
  obtain ⟨t, hp, he⟩ := h.ex
  exact ⟨fun pins s σ H Q I ⟨B, F, r, R, p⟩ => hp.run pins s σ H Q I (he B F H r σ Q R p)⟩
theorem noX_ok {α : Type} {m : Res α} {a : α} (h : noX m = .ok a) : m = .ok a := by
  cases m with
  | ok b => exact h
  | er c fs r => cases h
  | bad => cases h
theorem noX_cases {α : Type} (m : Res α) : (∃ a, m = .ok a ∧ noX m = .ok a) ∨ noX m = .bad := by
  cases m with
  | ok b => exact .inl ⟨b, rfl, rfl⟩
  | er c fs r => exact .inr rfl
  | bad => exact .inr rfl
theorem lc_ent {K : PySem.W.Frag} {mg : Str → Option Value} {wi : TI} {s : En → Res (List D × En)} {vs : List Nat} {g : D → En → Res En} {t : En → Res (Bool × En)} {e : En → Res (D × En)} (hi : Ent K mg W (rI K mg) wi s) :
    Ent K mg W (rN K mg) (tLc wi (tOfG K mg W0 vs g) (tOf K mg W0 rT t) (tOf K mg W0 (rE K mg) e) vs) (eLc s g t e vs) := by
  intro B F H r σ Q R p
  refine hi.to R p fun ds r1 J F1 H1 R1 s1 wk p1 => ?_
  intro Dl hD
  by_cases hz : ds.length ≤ 100000
  · simp only [if_pos hz] at p1
    obtain ⟨nB, nb⟩ := R1.new_ne hD
    have fD : F1 Dl = none := R1.fh.free hD
    have bF : B.F Dl = none := R1.f0.free fD
    refine ⟨fun i m H' => m = ds.length - i ∧ i ≤ ds.length ∧ ∃ F' r0 acc ac, Rel K mg B F' H' (wipeE r0 vs) (wipe σ vs) ∧ Same F1 F' ∧ H' Dl = some (.lst ac) ∧ F' Dl = none ∧ Loose H' (wipeE r0 vs) (wipe σ vs) Dl ∧ repL K mg F' acc ac ∧ acc.length ≤ i ∧
        Po K mg W B F' σ (rN K mg) Q ((noX (lcLoop g t e vs (ds.drop i) (wipeE r0 vs) acc)).bind fun q => .ok (.lst q.1, restore r1 vs q.2)), ⟨ds.length, by simp, Nat.zero_le _, F1, r1, [], [], (R1.newO hD).wipe vs, Same.refl F1, upd_same, fD, ?_, rfl, Nat.zero_le _, by simpa using p1⟩, ?_⟩
    · exact (R1.wipe vs).loose_new hD
    · rintro i m H' ⟨rfl, hle, F', r0, acc, ac, R', s', hH, hF, hl, ra, la, p'⟩
      obtain ⟨w1, w2⟩ := wk F' H' s' R'.fh
      by_cases hlt : i < ds.length
      · have ei : ds[i]? = some ds[i] := List.getElem?_eq_getElem hlt
        obtain ⟨go, yl⟩ := w1 i _ ei
        rw [List.drop_eq_getElem_cons hlt] at p'
        refine .inr ⟨go, fun H2 => ∃ F2 r2 acc2 ac2, Rel K mg B F2 H2 (wipeE r2 vs) (wipe σ vs) ∧ Same F1 F2 ∧ H2 Dl = some (.lst ac2) ∧ F2 Dl = none ∧ Loose H2 (wipeE r2 vs) (wipe σ vs) Dl ∧ repL K mg F2 acc2 ac2 ∧ acc2.length ≤ i + 1 ∧
          Po K mg W B F2 σ (rN K mg) Q ((noX (lcLoop g t e vs (ds.drop (i + 1)) (wipeE r2 vs) acc2)).bind fun q => .ok (.lst q.1, restore r1 vs q.2)), fun H2 ⟨F2, r2, acc2, ac2, h2⟩ => ⟨ds.length - (i + 1), by omega, rfl, hlt, F2, r2, acc2, ac2, h2⟩, fun x H'' y => ?_⟩
        obtain ⟨F'', f1, f2, f3, f4, f5⟩ := yl x H'' y
        have Rg := ((R'.guard hH hF nB nb hl).grow f2 f1 f3 f4)
        have p2 := Po.weak p' f1
        unfold lcLoop at p2
        refine ⟨_, F'', wipeE r0 vs, ds[i], Rg, f5, ?_⟩
        rcases noX_cases (g ds[i] (wipeE r0 vs)) with ⟨r2, q1, q2⟩ | q2
        · rw [q1]
          rw [q2] at p2
          intro σ2 F2 H2 R2 s2 off2
          refine ⟨by rw [Off.wipe off2]; exact Off.wipe off_wipe, _, F2, r2, R2, ?_⟩
          have p3 := Po.weak p2 s2
          simp only [bind_ok] at p3
          rcases noX_cases (t r2) with ⟨⟨c, r3⟩, q3, q4⟩ | q4
          · rw [q3]
            rw [q4] at p3
            intro c' F3 H3 R3 s3 x3
            cases (show c = c' from x3)
            have p4 := Po.weak p3 s3
            simp only [bind_ok] at p4
            cases c with
            | true =>
              rw [if_pos rfl]
              refine ⟨_, F3, r3, R3, ?_⟩
              simp only at p4
              rcases noX_cases (e r3) with ⟨⟨d, r4⟩, q5, q6⟩ | q6
              · rw [q5]
                rw [q6] at p4
                intro v F4 H4 R4 s4 x4
                have p5 := Po.weak p4 s4
                simp only [bind_ok] at p5
                obtain ⟨R5, hH5, hF5, hl5⟩ := R4.unguard nB nb bF
                refine ⟨ac, hH5, sl100k (by rw [repL_len ra]; omega), F4, r4, acc ++ [d], ac ++ [v], ?_, (((s'.trans f1).trans s2).trans s3).trans s4, upd_same, hF5, ?_, repL_snoc (repL_mono (((f1.trans s2).trans s3).trans s4) _ _ ra) x4, by rw [List.length_append, List.length_singleton]; omega, p5⟩
                · have z := (R5.poke (o' := .lst (ac ++ [v])) hF5 nB nb hl5).wipe vs
                  have z2 : wipe σ2 vs = wipe σ vs := by rw [Off.wipe off2]; exact Off.wipe off_wipe
                  rw [z2] at z
                  exact z
                · have z2 : wipe σ2 vs = wipe σ vs := by rw [Off.wipe off2]; exact Off.wipe off_wipe
                  have Rg4 := R4.wipe vs
                  rw [z2] at Rg4
                  exact (Rg4.unguard nB nb bF).2.2.2.poke
              · rw [q6] at p4
                exact p4.elim
            | false =>
              rw [if_neg Bool.false_ne_true]
              simp only at p4
              obtain ⟨R5, hH5, hF5, hl5⟩ := R3.unguard nB nb bF
              have z2 : wipe σ2 vs = wipe σ vs := by rw [Off.wipe off2]; exact Off.wipe off_wipe
              refine ⟨F3, r3, acc, ac, ?_, ((s'.trans f1).trans s2).trans s3, hH5, hF5, ?_, repL_mono ((f1.trans s2).trans s3) _ _ ra, by omega, p4⟩
              · have z := R5.wipe vs
                rw [z2] at z
                exact z
              · have Rg4 := R3.wipe vs
                rw [z2] at Rg4
                exact (Rg4.unguard nB nb bF).2.2.2
          · rw [q4] at p3
            exact p3.elim
        · rw [q2] at p2
          exact p2.elim
      · have ei : i = ds.length := by omega
        subst ei
        rw [List.drop_length] at p'
        refine .inl ⟨w2, ?_⟩
        have p2 : Po K mg W B F' σ (rN K mg) Q (.ok (.lst acc, restore r1 vs (wipeE r0 vs))) := p'
        have R3 := Rel.restore R1 s' vs _ R'.unwipe
        refine p2 _ F' H' R3 (Same.refl F') ⟨Dl, rfl, hF, nB, nb, ?_, ac, hH, ra⟩
        have Rg3 := Rel.restore (R1.newO (o := .lst ac) hD |>.guard upd_same fD nB nb (R1.loose_new hD)) s' vs _ (R'.unwipe.guard hH hF nB nb ?_)
        · exact (Rg3.unguard nB nb bF).2.2.2
        · intro j2 s2 q2 hj2 mj2 ej2
          have nj := wipeE_some hj2
          exact hl j2 s2 q2 hj2 mj2 (by rw [wipe_get, if_neg nj]; exact ej2)
  · simp only [if_neg hz] at p1
    exact p1.elim
theorem dn_lc {elt tg iter : Expr} {ifs : List Expr} {scope : Scope} {own : List (Str × Nat)} {s : En → Res (List D × En)} {g : D → En → Res En} {t : En → Res (Bool × En)} {f : En → Res (D × En)} (hc : X.calm = true) (hN : X.N.Nodup) (hi : DI X W tg iter s) (ok : BlkOk X.N X.env.scope scope own)
    (hg : ∀ (s : Shared) (H : Hp) (C : Addr) (cl : List (Str × Addr)) (fp : List Addr), DG (X.blk s H scope (compEnvC scope cl C X.env) fp) W0 tg (own.map (·.2)) g)
    (ht : ∀ (s : Shared) (H : Hp) (C : Addr) (cl : List (Str × Addr)) (fp : List Addr), DTs (X.blk s H scope (compEnvC scope cl C X.env) fp) W0 ifs t)
    (he : ∀ (s : Shared) (H : Hp) (C : Addr) (cl : List (Str × Addr)) (fp : List Addr), DE (X.blk s H scope (compEnvC scope cl C X.env) fp) W0 elt f) (hs : ∀ x, foldedSetIterable iter X.env x = pure x := by intro _; rfl) :
    DN X W (.ListComp elt [⟨tg, iter, ifs, 0⟩] scope pos) (eLc s g t f (own.map (·.2))) := by
  obtain ⟨ti, pi, ei⟩ := hi.ex
  exact ⟨_, pe_lc hc hN pi ok (fun a b c d e => (hg a b c d e).can) (fun a b c d e => (ht a b c d e).can) (fun a b c d e => (he a b c d e).can) hs, lc_ent ei⟩
end
end Dl

set_option Elab.async false
set_option linter.all false
set_option maxRecDepth 100000
set_option maxHeartbeats 4000000
namespace Dl
open PySem L2 PySem.Spec PyProof.Rows
/-! ### promises of defs where no repr is under way -/
structure Room (k : Nat) (A : Around) : Prop where
  r2 : L2.Room k A
  gd : A.guards = some []
section
variable {j k : Nat} {A : Around}
theorem Room.hd (r : Room k A) : A.handled = none := r.r2.hd
theorem Room.dp (r : Room k A) : A.depth + 3 * k + 5 < recursionLimit := r.r2.dp
theorem Room.un (r : Room k A) : A.units + 16 * k + 200 < cLine := r.r2.un
theorem Room.mono (r : Room k A) (h : j ≤ k) : Room j A := ⟨r.r2.mono h, r.gd⟩
theorem Room.deeper (r : Room (k + 1) A) (env : Env) : Room k (A.deeper env) := ⟨r.r2.deeper env, r.gd⟩
theorem Room.in1 (r : Room (k + 1) A) : Room k A.in1 := ⟨r.r2.in1, r.gd⟩
theorem make_guards {C : Addr} {us : List Value} {kw : List (Str × Value)} : (A.under (.builtin "type.__call__" ⟨.ref C :: us, kw⟩)).guards = A.guards := by
  first
    | rfl
    | (simp [Around.under, Code.guards, Code.isGuard, guardIds, pushGuards]; done)
    | (cases h : A.guards <;> simp [Around.under, Code.guards, Code.isGuard, guardIds, pushGuards, h])
theorem Room.make (r : Room (k + 1) A) (C : Addr) (us : List Value) (kw : List (Str × Value)) : Room k (A.under (.builtin "type.__call__" ⟨.ref C :: us, kw⟩)) :=
  ⟨r.r2.make C us kw, make_guards.trans r.gd⟩
theorem Room.depth (r : Room k A) : A.depth < recursionLimit := r.r2.depth
theorem Room.units (r : Room k A) : A.units + 64 < cLine := r.r2.units
theorem Room.units0 (r : Room k A) : A.units < cLine := r.r2.units0
end
structure FnOk (P : Program) (w : World) (K : PySem.W.Frag) (mg : Str → Option Value) (base : Heap) (CX : CXT) (k : Nat) (f : Addr) (fd : FuncData) (ps : List Str) (sp : Sp) : Prop where
  len : ∀ vs H Q E, sp vs H Q E → vs.length = ps.length
  run : ∀ (A : Around) (outer : List Env) (s : Shared) (H : Hp) (args : Args) (us : List Value) (vs : List V) (Q : VK) (E : XK),
    Room k A → Env0 P w K mg base A outer s H → BindsTo s fd args (ps.zip us) → Vals vs us → sp vs H Q E → codeAny (model P w) A (.call (.ref f) args) (CR CX outer P w H s Q E) s
section
variable {CX : CXT} {P : Program} {w : World} {K : PySem.W.Frag} {mg : Str → Option Value} {base : Heap} {j k : Nat} {f : Addr} {fd : FuncData} {ps : List Str} {sp : Sp}
theorem FnOk.mono (F : FnOk P w K mg base CX j f fd ps sp) (h : j ≤ k) : FnOk P w K mg base CX k f fd ps sp where
  len := F.len
  run := fun A outer s H args us vs Q E hr => F.run A outer s H args us vs Q E (hr.mono h)
/-- a def by its body -/
theorem fun_ok {x qual : Str} {params : Arguments} {body : List Stmt} {scope : Scope} {dvs : List V} {kws : List (Str × V)} {N : List Str} (FD : FunD K x qual params body scope dvs kws f fd) (S : FnScope N ps scope) (len : ∀ vs H Q E, sp vs H Q E → vs.length = ps.length)
    (hb : ∀ (cdv : Value) (A : Around) (outer : List Env) (s : Shared) (H : Hp) (vs : List V) (Q : VK) (E : XK), Room k (A.deeper (envOfC qual scope s.heap.objs.size f cdv)) → sp vs H Q E →
      ∃ t, PSs (cxOf CX P w K mg base N qual scope f cdv A outer s H E) body t ∧ t { nx := fun _ H' => Q .non H', rt := Q } (start N vs) H) : FnOk P w K mg base CX (k + 1) f fd ps sp := by
  obtain ⟨oc, od, dV, kV, doc, pm, an, cdv, ct, osl, rfl, lk, hcd, _, _⟩ := FD.ex
  refine ⟨len, fun A outer s H args us vs Q E room e0 bt rel prom => ?_⟩
  have there : ∀ b o, base.get? b = some o → s.heap.get? b = some o := fun b o e => (e0.bs b o e).1
  have kin : K.In s.heap := e0.mod.kin.keeps there
  have nol : s.heap.NoLimit := e0.mod.nolimit.keeps there
  have kinds : ∀ y ∈ ps.zip us, scope.names.lookup y.1 = some .local ∨ (scope.names.lookup y.1 = some .cell ∧ ((cellsFrom (s.heap.objs.size + 1) scope.names []).lookup y.1).isSome = true) := by
    intro y my
    rcases S.par y.1 (List.of_mem_zip (a := y.1) (b := y.2) my).1 with h | h
    · exact Or.inl h
    · exact Or.inr ⟨h, PySem.W.cellsFrom_some _ _ _ (Or.inl h)⟩
  refine codeAny_call_function room.depth (kin _ _ lk) rfl S.co S.gen rfl (PySem.W.codeRec_of kin hcd) (bt _ _ _ _ ?_)
  refine wpAny_newFunctionEnv_cells S.kind kinds fun env ee s1 entry => ?_
  subst ee
  refine ⟨nol.keeps entry.toInCall.keep, codeAny_func ?_⟩
  obtain ⟨t, pt, ht⟩ := hb cdv A outer s H vs Q E (room.deeper _) prom
  have I0 := inv_start (CX := CX) (E := E) (qual := qual) (f := f) (cd := cdv) S room.hd e0 (len _ _ _ _ prom) rel entry
  refine wpAny_mono (pt.run [] s1 (start N vs) H _ I0 ht) (fun fl s' out => ?_) fun _ _ z => z
  cases fl with
  | ret u =>
    obtain ⟨v, σ1, H1, J, rv, q⟩ := out
    exact ⟨v, H1, J.os, J.bare, J.base, J.hok, rv, q⟩
  | next =>
    obtain ⟨σ1, H1, J, q⟩ := out
    exact ⟨V.non, H1, J.os, J.bare, J.base, J.hok, rfl, q⟩
  | brk =>
    obtain ⟨_, _, _, no⟩ := out
    exact no.elim
  | cont =>
    obtain ⟨_, _, _, no⟩ := out
    exact no.elim
end
section
variable {X : Cx} {CX : CXT} {k : Nat} {f : Addr} {fd : FuncData} {ps : List Str} {sp : Sp} {dvs : List V} {ds : List Value} {E : L2.St → XK} {x : Str} {p pos : Pos} {e : Expr} {es : List Expr} {t : TA}
theorem run_fnSD {pins : List (Addr × Obj)} {σ : L2.St} {H : Hp} {s : Shared} {Q : VK} {us : List Value} {vs : List V} (F : FnOk X.prog X.w X.K X.mg X.base CX k f fd ps sp) (room : Room k X.A) (hb : Binds X.K fd ps ds) (hd : Vals dvs ds) (hx : PassesAt CX X σ (E σ)) (I : Inv X pins σ H s) (r : Vals vs us) (h : sp (vs ++ dvs) H Q (E σ)) :
    wpAny (model X.prog X.w) X.A (call (.ref f) us) (EP X pins σ Q) X.xe s := by
  have rr : Vals (vs ++ dvs) (us ++ ds) := r.append hd
  have el : (us ++ ds).length = ps.length := rr.length.symm.trans (F.len _ _ _ _ h)
  have go := F.run X.A X.stack s H ⟨us, []⟩ (us ++ ds) (vs ++ dvs) Q (E σ) room I.env0 (hb s us I.kIn el) rr h
  refine wpAny_call (codeAny_mono go fun out s' z => ?_)
  match out, z with
  | .error e, z => exact hx pins H s e s' I z
  | .ok (.ret u), z => exact I.after z
  | .ok .next, z => exact z.elim
  | .ok .brk, z => exact z.elim
  | .ok .cont, z => exact z.elim
theorem pe_callSD (F : FnOk X.prog X.w X.K X.mg X.base CX k f fd ps sp) (room : Room k X.A) (hg : Gl X x) (hm : X.mg x = some (.ref f)) (hk : PySem.W.keepIn X.K (.ref f) = true) (hb : Binds X.K fd ps ds) (hd : Vals dvs ds) (hx : ∀ σ, PassesAt CX X σ (E σ)) (ha : PA X (e :: es) t)
    (hdb : (x == ("__debug__" : Str)) = false := by decide) (he : starEach (e :: es) X.env = (false, eval e X.env) :: starEach es X.env := by rfl) (hpl : (backTo pos (starEach es X.env)).any (·.1) = false := by rfl) : PE X (.Call (.Name x p) (e :: es) [] pos) (tCallSD sp dvs E t) where
  run := fun pins s σ H Q I h => wpAny_Call_Name_kw (ld_glob I hg hm (PySem.W.callWith_K (h₀ := X.base) I.ok.mod.kin hk (thn (ha.run pos pins s σ H _ I h) fun us s1 z => by
    obtain ⟨vs, H1, I1, r, q⟩ := z
    exact ⟨I1.kIn, run_fnSD F room hb hd (hx σ) I1 r q⟩) he hpl) hdb)
end
/-! ### the end of a law -/
theorem law_go {P : Program} {w : World} {K : PySem.W.Frag} {mg mb : Str → Option Value} {CX : CXT} {k : Nat} {fa a : Addr} {fd : FuncData} {x : Str} {sp : Sp} {s₁ : Shared} {vs : List Value} {ns : List Int} (KX : K.In s₁.heap) (hns : s₁.heap.Ns mainGlobals mg) (hb : s₁.heap.Ns builtinsNs mb)
    (hbb : ∀ x : Str, x ≠ "__name__" → mb x = bootBuiltins x) (hlim : s₁.heap.NoLimit) (hg : s₁.gens = #[]) (ha : s₁.heap.get? a = some { cls := .type "list", data := .seq vs.toArray }) (hi : IntsAre vs ns) (hl : ns.length ≤ sizeLine) (hr : L2.Room k callerA)
    (F : ∀ base : Heap, K.In base → base.Ns mainGlobals mg → FnOk P w K mg base CX k fa fd [x] sp) (hbind : ∀ (s : Shared) (u : Value), BindsTo s fd ⟨[u], []⟩ [(x, u)]) (hsp : ∀ H : Hp, Only H → SqL K H a (ns.map V.int) → sp [.ref a] H (fun v _ => v = .bl true) fun _ _ _ => False)
    (hCX : ∀ H e s', CX [] H s₁ (fun _ _ _ => False) e s' → False) :
    codeAny (model P w) callerA (.call (.ref fa) ⟨[.ref a], []⟩) (fun r s' => r = .ok (.ret (.bool true)) ∧ OldK s₁.heap s'.heap ∧ s'.os = s₁.os ∧ AllBare s'.gens) s₁ := by
  have nov : ∀ b : Addr, b ∉ ([] : List Addr) := fun b => List.not_mem_nil
  have main : ∀ H : Hp, Only H → SqL K H a (ns.map V.int) → HOk P w H s₁.heap → (∀ b, H b ≠ none → b = a) → (H a ≠ none → K.lookup a = none) →
      codeAny (model P w) callerA (.call (.ref fa) ⟨[.ref a], []⟩) (fun r s' => r = .ok (.ret (.bool true)) ∧ OldK s₁.heap s'.heap ∧ s'.os = s₁.os ∧ AllBare s'.gens) s₁ := by
    intro H only sq ok one notK
    have none_of : ∀ {b : Addr}, (H b ≠ none → False) → H b = none := fun {b} h => Classical.byContradiction h
    have dict0 : ∀ {b : Addr} {o : Obj} {es : Array DictEntry} {ep : Nat}, s₁.heap.get? b = some o → o.data = .dict es ep → H b = none := fun {b o es ep} e d => none_of fun q => by
      have eb := one b q
      rw [eb, ha] at e
      cases e
      have d' : Data.seq vs.toArray _ = Data.dict es ep := d
      cases d'
    have names : ∀ {b : Addr} {m : Str → Option Value}, s₁.heap.Ns b m → (hidT s₁.heap H).Ns b m := fun {b m} n => by
      obtain ⟨o, es, ep, e, d, rest⟩ := n
      exact ⟨o, es, ep, hidT_get e (dict0 e d), d, rest⟩
    have kb : K.In (hidT s₁.heap H) := fun b o e => hidT_get (KX b o e) (none_of fun q => by
      have eb := one b q
      rw [eb] at e q
      rw [notK q] at e
      cases e)
    have nl : (hidT s₁.heap H).NoLimit := by
      obtain ⟨mc, h1, h2⟩ := hlim
      exact ⟨mc, names h1, h2⟩
    have e0 : Env0 P w K mg (hidT s₁.heap H) callerA [] s₁ H := ⟨rfl, ⟨kb, names hns, ⟨mb, names hb, hbb⟩, nl⟩, fun b o e => of_hidT e, Nat.le_of_eq (hidT_size _ _), trivial, fun b hb => (nov b hb).elim, ok, .of_eq hg⟩
    have go := (F _ kb (names hns)).run callerA [] s₁ H ⟨[.ref a], []⟩ [.ref a] [.ref a] _ _ ⟨hr, rfl⟩ e0 (hbind s₁ (.ref a)) (.cons rfl .nil) (hsp H only sq)
    refine codeAny_mono go fun out s' z => ?_
    match out, z with
    | .error e, z => exact (hCX H e s' z).elim
    | .ok .next, z => exact z.elim
    | .ok .brk, z => exact z.elim
    | .ok .cont, z => exact z.elim
    | .ok (.ret u), z =>
      obtain ⟨v, H', eos, bare, un, ok', rv, ev⟩ := z
      cases (show v = .bl true from ev)
      cases (show u = Value.bool true from rv)
      refine ⟨rfl, OldK.of_keep fun b o e => ?_, eos, bare⟩
      rcases only b with q | ⟨ob, xs, q⟩
      · exact un.keep b o e q (fun z => (nov b z).elim) (by simp)
      · have q2 := un.frzs b ob _ q
        have e1 := (ok b _ q).1
        have e2 := (ok' b _ q2).1
        rw [e] at e1
        cases e1
        exact e2
  have rv := vals_ints hi
  have lenV := hi.length
  cases lk : K.lookup a with
  | some o =>
    have e := KX a o lk
    rw [ha] at e
    cases e
    have sz : vs.toArray.size ≤ sizeLine := by rw [List.size_toArray, lenV]; exact hl
    exact main (fun _ => none) (fun _ => Or.inl rfl) (Or.inr ⟨_, vs.toArray, _, lk, rfl, rfl, rfl, sz, by simpa using rv⟩) (fun b u z => by cases (show (none : Option HO) = some u from z)) (fun b z => (z rfl).elim) fun z => (z rfl).elim
  | none =>
    let ob : HO := .frz { cls := .type "list", data := .seq vs.toArray } (.lst (ns.map V.int))
    refine main (fun b => if b = a then some ob else none) (fun b => ?_) (Or.inl (Or.inr ⟨_, if_pos rfl⟩)) (fun b u z => ?_) (fun b z => ?_) fun _ => lk
    · by_cases e : b = a
      · exact Or.inr ⟨_, _, if_pos e⟩
      · exact Or.inl (if_neg e)
    · by_cases e : b = a
      · cases (if_pos e).symm.trans z
        subst e
        exact ⟨ha, by rw [List.length_map]; exact hl, vs, _, rv, ha⟩
      · cases (if_neg e).symm.trans z
    · exact Classical.byContradiction fun e => z (if_neg e)
theorem walk_law {l : PySem.W.OpenLaw} {n k : Nat} {q : Program} {loose : List Str} {XP : (Str → Option Value) → Heap → Prop} {YP : World → Heap → Prop} {d : DefRec} {CX : CXT} {x : Str} (hn : l.most = some n) (hn2 : n ≤ sizeLine) (hdf : d.params.defaults = []) (hr : L2.Room k callerA)
    (F : ∀ (w : World) (mg : Str → Option Value) (fa : Addr) (h : Heap), YP w h → h.Ns mainGlobals mg → mg d.name = some (.ref fa) → ∃ (K : PySem.W.Frag) (fd : FuncData) (sp : Sp), K.In h ∧ (∀ (s : Shared) (u : Value), BindsTo s fd ⟨[u], []⟩ [(x, u)]) ∧
      (∀ (H : Hp) (a : Addr) (ns : List Int), ns.length ≤ n → Only H → SqL K H a (ns.map V.int) → sp [.ref a] H (fun v _ => v = .bl true) fun _ _ _ => False) ∧ ∀ base : Heap, K.In base → base.Ns mainGlobals mg → FnOk l.prog w K mg base CX k fa fd [x] sp)
    (hCX : ∀ (H : Hp) (s : Shared) (e : Value) (s' : Shared), CX [] H s (fun _ _ _ => False) e s' → False) : PySem.W.WalkO q loose XP YP l.row.toRowW d [] (fun f vs => PySem.call f vs) := by
  refine Att.attach_call hn hdf fun w s₀ s₁ mg mb fa o pm cd doc a vs ns G Y _ _ _ at_ obj isI len gens => ?_
  obtain ⟨K, fd, sp, KX, bi, prom, ok⟩ := F w mg fa _ Y G.T.g at_
  exact law_go KX G.T.g G.T.b G.T.builtins G.T.nolimit gens obj isI (Nat.le_trans len hn2) hr ok bi (fun H o z => prom H a ns len o z) fun H e s' => hCX H s₁ e s'
end Dl

set_option Elab.async false
set_option linter.all false
set_option maxRecDepth 100000
set_option maxHeartbeats 4000000
namespace Dl
open PySem L2

/-! ### defs: their promise by a denotation -/
section
variable (K : PySem.W.Frag) (mg : Str → Option Value)
structure Grow (A : List Addr) (F H F' H' : Hp) : Prop where
  h : ∀ a o, a ∉ A → H a = some o → H' a = some o
  f : Same F F'
  fh : Same F' H'
  fr : ∀ a, F a = none → H a ≠ none → F' a = none
def PoF (F H : Hp) (Q : VK) (E : XK) : Res D → Prop
  | .ok d => ∀ v F' H', Grow [] F H F' H' → rep K mg F' d v → Q v H'
  | .er c fs _ => ∀ C od F' H', mg c = some (.ref C) → Grow [] F H F' H' → xdOk K mg F' H' fs od → E (.ref C) od H'
  | .bad => False
def spD (den : List D → Res D) : Sp := fun vs H Q E => ∃ F ds, Same F H ∧ repL K mg F ds vs ∧ PoF K mg F H Q E (den ds)
/-- the first parameter is an object that the def may change -/
def PoB (A : List Addr) (p : Addr) (F H : Hp) (Q : VK) (E : XK) : Res (D × D) → Prop
  | .ok (d, d1) => ∀ v F' H', Grow A F H F' H' → (∀ a ∈ A, H' a ≠ none) → (∀ a ∈ fp H' p d1, F' a = none ∧ (a ∈ A ∨ H a = none)) → (fp H' p d1).Nodup → ownAt K mg F' H' p d1 → rep K mg F' d v → Q v H'
  | .er c fs _ => ∀ C od F' H', mg c = some (.ref C) → Grow A F H F' H' → (∀ a ∈ A, H' a ≠ none) → xdOk K mg F' H' fs od → E (.ref C) od H'
  | .bad => False
def spB (den : D → List D → Res (D × D)) : Sp := fun vs H Q E => ∃ F p d0 ds ws, vs = .ref p :: ws ∧ Same F H ∧ (∀ a ∈ fp H p d0, F a = none) ∧ (fp H p d0).Nodup ∧ ownAt K mg F H p d0 ∧ repL K mg F ds ws ∧ PoB K mg (fp H p d0) p F H Q E (den d0 ds)
end
def startE (n : Nat) (ds : List D) : En := ds.map (fun d => some (.fz d)) ++ List.replicate (n - ds.length) none
def startB (n : Nat) (d0 : D) (ds : List D) : En := some (.bo d0) :: (ds.map (fun d => some (.fz d)) ++ List.replicate (n - (ds.length + 1)) none)
def runF (n np : Nat) (f : En → SR) (ds : List D) : Res D := if ds.length = np then (match f (startE n ds) with
  | .rt d _ => .ok d
  | .nx _ => .ok .non
  | .er c fs r => .er c fs r
  | _ => .bad) else .bad
def endB (d : D) (r : En) : Res (D × D) := match (r[0]? : Option (Option Sl)) with
  | some (some (Sl.bo d1)) => .ok (d, d1)
  | _ => .bad
def runB (n np : Nat) (f : En → SR) (d0 : D) (ds : List D) : Res (D × D) := if ds.length + 1 = np then (match f (startB n d0 ds) with
  | .rt d r => endB d r
  | .nx r => endB .non r
  | .er c fs r => .er c fs r
  | _ => .bad) else .bad
section
variable {K : PySem.W.Frag} {mg : Str → Option Value} {F H : Hp}
theorem repL_get : ∀ {ds : List D} {vs : List V} {i : Nat} {d : D}, repL K mg F ds vs → ds[i]? = some d → ∃ v, vs[i]? = some v ∧ rep K mg F d v
  | [], _, _, _, _, h => by simp at h
  | d0 :: ds, _, 0, d, h, e => by
    obtain ⟨w, ws, rfl, h1, h2⟩ := h
    simp at e
    subst e
    exact ⟨w, rfl, h1⟩
  | d0 :: ds, _, i + 1, d, h, e => by
    obtain ⟨w, ws, rfl, h1, h2⟩ := h
    obtain ⟨v, e1, e2⟩ := repL_get (i := i) (d := d) h2 (by simpa using e)
    exact ⟨v, by simpa using e1, e2⟩
theorem rel_start {N : List Str} {ds : List D} {vs : List V} (s : Same F H) (h : repL K mg F ds vs) : Rel K mg ⟨F, H, []⟩ F H (startE N.length ds) (L2.start N vs) where
  fh := s
  f0 := Same.refl F
  keep := fun _ _ _ h => h
  fresh := fun _ h _ => h
  live := fun _ h => by cases h
  len := by
    unfold startE L2.start
    simp [repL_len h]
  slot := fun i sl e => by
    unfold startE at e
    rw [List.getElem?_append] at e
    by_cases q : i < (ds.map fun d => some (Sl.fz d)).length
    · rw [if_pos q, List.getElem?_map] at e
      cases z : ds[i]? with
      | none =>
        rw [z] at e
        cases e
      | some d =>
        rw [z] at e
        cases e
        obtain ⟨v, e1, e2⟩ := repL_get h z
        refine ⟨v, ?_, e2⟩
        unfold L2.start
        rw [List.getElem?_append_left (by rw [List.length_map]; exact (List.getElem?_eq_some_iff.mp e1).1), List.getElem?_map, e1]
        rfl
    · rw [if_neg q, List.getElem?_replicate] at e
      split at e <;> cases e
  apart := fun i j sl t p p2 ne hi hj ms mt ei ej => by
    exfalso
    unfold startE at hi
    rw [List.getElem?_append] at hi
    by_cases q : i < (ds.map fun d => some (Sl.fz d)).length
    · rw [if_pos q, List.getElem?_map] at hi
      cases z : ds[i]? with
      | none =>
        rw [z] at hi
        cases hi
      | some d =>
        rw [z] at hi
        cases hi
        cases ms
    · rw [if_neg q, List.getElem?_replicate] at hi
      split at hi <;> cases hi
theorem startB_get {n : Nat} {d0 : D} {ds : List D} {i : Nat} {sl : Sl} (e : (startB n d0 ds)[i]? = some (some sl)) : (i = 0 ∧ sl = .bo d0) ∨ ∃ j d, i = j + 1 ∧ ds[j]? = some d ∧ sl = .fz d := by
  cases i with
  | zero =>
    unfold startB at e
    simp at e
    exact .inl ⟨rfl, e.symm⟩
  | succ i =>
    unfold startB at e
    rw [List.getElem?_cons_succ, List.getElem?_append] at e
    by_cases q : i < (ds.map fun d => some (Sl.fz d)).length
    · rw [if_pos q, List.getElem?_map] at e
      cases z : ds[i]? with
      | none =>
        rw [z] at e
        cases e
      | some d =>
        rw [z] at e
        cases e
        exact .inr ⟨i, d, rfl, z, rfl⟩
    · rw [if_neg q, List.getElem?_replicate] at e
      split at e <;> cases e
theorem rel_startB {N : List Str} {p : Addr} {d0 : D} {ds : List D} {vs : List V} (s : Same F H) (hp : ∀ a ∈ fp H p d0, F a = none) (nd : (fp H p d0).Nodup) (ho : ownAt K mg F H p d0) (h : repL K mg F ds vs) : Rel K mg ⟨F, H, fp H p d0⟩ F H (startB N.length d0 ds) (L2.start N (.ref p :: vs)) where
  fh := s
  f0 := Same.refl F
  keep := fun _ _ _ h => h
  fresh := fun _ h _ => h
  live := fun a ha => by
    obtain ⟨o, e⟩ := fp_live d0 ho a ha
    rw [e]
    exact ⟨fun z => (nomatch z), by show H a ≠ none; rw [e]; exact fun z => (nomatch z)⟩
  len := by
    unfold startB L2.start
    simp [repL_len h]
  slot := fun i sl e => by
    rcases startB_get e with ⟨rfl, rfl⟩ | ⟨j, d, rfl, z, rfl⟩
    · refine ⟨p, by unfold L2.start; simp, ?_, fun a ha => ⟨hp a ha, .inl ha⟩, nd, ho⟩
      show (fp H p d0).head? = some p
      unfold fp
      split
      · split <;> rfl
      · rfl
    · obtain ⟨v, e1, e2⟩ := repL_get h z
      refine ⟨v, ?_, e2⟩
      unfold L2.start
      rw [List.getElem?_append_left (by rw [List.length_map, List.length_cons]; have := (List.getElem?_eq_some_iff.mp e1).1; omega), List.getElem?_map, List.getElem?_cons_succ, e1]
      rfl
  apart := fun i j sl t q q2 ne hi hj ms mt ei ej => by
    exfalso
    rcases startB_get hi with ⟨rfl, rfl⟩ | ⟨_, d, rfl, z, rfl⟩
    · rcases startB_get hj with ⟨rfl, rfl⟩ | ⟨_, d, rfl, z, rfl⟩
      · exact absurd rfl ne
      · cases mt
    · cases ms
end
/-- the body of a def, in every context in which it may run: its denotation -/
def BodyOk (P : Program) (w : World) (K : PySem.W.Frag) (mg : Str → Option Value) (base : Heap) (k : Nat) (N : List Str) (qual : Str) (scope : Scope) (f : Addr) (body : List Stmt) (den : En → SR) : Prop :=
  ∀ (cdv : Value) (A : Around) (outer : List Env) (s : Shared) (H : Hp) (E : XK), Room k (A.deeper (PyProof.Rows.envOfC qual scope s.heap.objs.size f cdv)) →
    DSs (cxOf (L2.CX P w) P w K mg base N qual scope f cdv A outer s H E) (fun c d _ H' => E c d H') body den
section
variable {P : Program} {w : World} {K : PySem.W.Frag} {mg : Str → Option Value} {base : Heap} {x qual : Str} {params : Arguments} {body : List Stmt} {scope : Scope} {dvs : List V} {kws : List (Str × V)} {f : Addr} {fd : FuncData} {N ps : List Str} {k : Nat} {den : En → SR}
theorem fn_D (F : FunD K x qual params body scope dvs kws f fd) (S : FnScope N ps scope) (b : BodyOk P w K mg base k N qual scope f body den) : FnOk P w K mg base (L2.CX P w) (k + 1) f fd ps (spD K mg (runF N.length ps.length den)) := by
  refine fun_ok F S (fun vs H Q E h => ?_) (fun cdv A outer s H vs Q E hr h => ?_)
  · obtain ⟨F', ds, _, r, p⟩ := h
    rw [repL_len r]
    unfold runF at p
    split at p
    · assumption
    · exact p.elim
  · obtain ⟨F', ds, s', r, p⟩ := h
    obtain ⟨t, hp, he⟩ := (b cdv A outer s H E hr).ex
    refine ⟨t, hp, he ⟨F', H, []⟩ F' H _ _ _ (rel_start s' r) ?_⟩
    unfold runF at p
    split at p
    · cases q : den (startE N.length ds) with
      | rt d r' =>
        rw [q] at p
        exact fun v σ' F1 H1 R1 s1 x => p v F1 H1 ⟨fun a o _ h => R1.keep a o (by simp) h, s1, R1.fh, R1.fresh⟩ x
      | nx r' =>
        rw [q] at p
        exact fun σ' F1 H1 R1 s1 => p .non F1 H1 ⟨fun a o _ h => R1.keep a o (by simp) h, s1, R1.fh, R1.fresh⟩ rfl
      | er c fs r' =>
        rw [q] at p
        exact fun C od σ' F1 H1 m R1 s1 x => p C od F1 H1 m ⟨fun a o _ h => R1.keep a o (by simp) h, s1, R1.fh, R1.fresh⟩ x
      | bk r' =>
        rw [q] at p
        exact p.elim
      | ct r' =>
        rw [q] at p
        exact p.elim
      | bad =>
        rw [q] at p
        exact p.elim
    · exact p.elim
theorem endB_ok {B : Bg} {F H : Hp} {r : En} {σ : St} {p : Addr} {d d' d1 : D} (R : Rel K mg B F H r σ) (hb : B.bs.head? = some p) (e : endB d r = .ok (d', d1)) : d' = d ∧ (∀ a ∈ fp H p d1, F a = none ∧ (a ∈ B.bs ∨ B.H a = none)) ∧ (fp H p d1).Nodup ∧ ownAt K mg F H p d1 := by
  unfold endB at e
  split at e
  · rename_i d2 e2
    cases e
    obtain ⟨p', e1, h1, h2, h3, h4⟩ := R.slot 0 _ e2
    rw [hb] at h1
    cases h1
    exact ⟨rfl, h2, h3, h4⟩
  · cases e
theorem fn_B (F : FunD K x qual params body scope dvs kws f fd) (S : FnScope N ps scope) (b : BodyOk P w K mg base k N qual scope f body den) : FnOk P w K mg base (L2.CX P w) (k + 1) f fd ps (spB K mg (runB N.length ps.length den)) := by
  refine fun_ok F S (fun vs H Q E h => ?_) (fun cdv A outer s H vs Q E hr h => ?_)
  · obtain ⟨F', p, d0, ds, ws, rfl, _, _, _, _, r, q⟩ := h
    rw [List.length_cons, repL_len r]
    unfold runB at q
    split at q
    · assumption
    · exact q.elim
  · obtain ⟨F', p, d0, ds, ws, rfl, s', hp0, nd0, ho, r, q0⟩ := h
    have hhd : (fp H p d0).head? = some p := by
      unfold fp
      split
      · split <;> rfl
      · rfl
    obtain ⟨t, hp, he⟩ := (b cdv A outer s H E hr).ex
    refine ⟨t, hp, he ⟨F', H, fp H p d0⟩ F' H _ _ _ (rel_startB s' hp0 nd0 ho r) ?_⟩
    have kp : ∀ {F1 H1 : Hp} {r1 : En} {σ1 : St}, Rel K mg ⟨F', H, fp H p d0⟩ F1 H1 r1 σ1 → Same F' F1 → Grow (fp H p d0) F' H F1 H1 := fun R1 s1 => ⟨fun a o ne h => R1.keep a o ne h, s1, R1.fh, R1.fresh⟩
    unfold runB at q0
    split at q0
    · cases q : den (startB N.length d0 ds) with
      | rt d r' =>
        rw [q] at q0
        intro v σ' F1 H1 R1 s1 x
        cases z : endB d r' with
        | ok dd =>
          obtain ⟨d', d1⟩ := dd
          simp only [z] at q0
          obtain ⟨rfl, h1, h2, h3⟩ := endB_ok R1 hhd z
          exact q0 v F1 H1 (kp R1 s1) (fun a ha => (R1.live a ha).1) h1 h2 h3 x
        | er c fs r2 =>
          unfold endB at z
          split at z <;> cases z
        | bad =>
          simp only [z] at q0
          exact q0.elim
      | nx r' =>
        rw [q] at q0
        intro σ' F1 H1 R1 s1
        cases z : endB .non r' with
        | ok dd =>
          obtain ⟨d', d1⟩ := dd
          simp only [z] at q0
          obtain ⟨rfl, h1, h2, h3⟩ := endB_ok R1 hhd z
          exact q0 .non F1 H1 (kp R1 s1) (fun a ha => (R1.live a ha).1) h1 h2 h3 rfl
        | er c fs r2 =>
          unfold endB at z
          split at z <;> cases z
        | bad =>
          simp only [z] at q0
          exact q0.elim
      | er c fs r' =>
        rw [q] at q0
        exact fun C od σ' F1 H1 m R1 s1 x => q0 C od F1 H1 m (kp R1 s1) (fun a ha => (R1.live a ha).1) x
      | bk r' =>
        rw [q] at q0
        exact q0.elim
      | ct r' =>
        rw [q] at q0
        exact q0.elim
      | bad =>
        rw [q] at q0
        exact q0.elim
    · exact q0.elim
end

/-! ### calls -/
section
variable (P : Program) (w : World) (K : PySem.W.Frag) (mg : Str → Option Value) (base : Heap)
/-- the def at f, called with some arguments, the rest by defaults -/
structure CalA (k : Nat) (f : Addr) (den : List D → Res D) : Prop where
  ex : ∃ (fd : FuncData) (ps : List Str) (ds : List Value) (dvs : List V) (dds : List D) (den0 : List D → Res D), FnOk P w K mg base (L2.CX P w) k f fd ps (spD K mg den0) ∧ Binds K fd ps ds ∧ Vals dvs ds ∧ (∀ F, repL K mg F dds dvs) ∧ den = fun as => den0 (as ++ dds)
  kp : PySem.W.keepIn K (.ref f) = true
structure CalB (k : Nat) (f : Addr) (den : D → List D → Res (D × D)) : Prop where
  ex : ∃ (fd : FuncData) (ps : List Str) (ds : List Value) (dvs : List V) (dds : List D) (den0 : D → List D → Res (D × D)), FnOk P w K mg base (L2.CX P w) k f fd ps (spB K mg den0) ∧ Binds K fd ps ds ∧ Vals dvs ds ∧ (∀ F, repL K mg F dds dvs) ∧ den = fun d as => den0 d (as ++ dds)
  kp : PySem.W.keepIn K (.ref f) = true
end
def callR (m : Res D) (r : En) : Res (D × En) := match m with
  | .ok d => .ok (d, r)
  | .er c fs _ => .er c fs r
  | .bad => .bad
def eCall (den : List D → Res D) (f : En → Res (List D × En)) : En → Res (D × En) := fun r => (f r).bind fun p => callR (den p.1) p.2
/-- the slot's object may be changed by the call -/
def callRB (m : Res (D × D)) (i : Nat) (s : Sl) (r : En) : Res (D × En) := match m with
  | .ok (d, d1) => .ok (d, r.set i (some (s.put d1)))
  | .er c fs _ => .er c fs (r.set i none)
  | .bad => .bad
def isMine (r : En) (i : Nat) : Bool := match r[i]? with
  | some (some s) => s.mine
  | _ => false
def atMine {α : Type} (r : En) (i : Nat) (k : Sl → Res α) : Res α := match r[i]? with
  | some (some s) => if s.mine = true then k s else .bad
  | _ => .bad
def eCallB (den : D → List D → Res (D × D)) (i : Nat) (f : En → Res (List D × En)) : En → Res (D × En) := fun r => if isMine r i = true then (f r).bind fun p => atMine p.2 i fun s => callRB (den s.d p.1) i s p.2 else .bad
theorem isMine_ok {r : En} {i : Nat} (h : isMine r i = true) : ∃ s, r[i]? = some (some s) ∧ s.mine = true := by
  unfold isMine at h
  cases e : r[i]? with
  | none =>
    rw [e] at h
    cases h
  | some o =>
    cases o with
    | none =>
      rw [e] at h
      cases h
    | some s =>
      rw [e] at h
      exact ⟨s, rfl, h⟩
theorem atMine_cases {α : Type} (r : En) (i : Nat) (k : Sl → Res α) : atMine r i k = .bad ∨ ∃ s, r[i]? = some (some s) ∧ s.mine = true ∧ atMine r i k = k s := by
  unfold atMine
  cases e : r[i]? with
  | none => exact .inl rfl
  | some o =>
    cases o with
    | none => exact .inl rfl
    | some s =>
      by_cases m : s.mine = true
      · exact .inr ⟨s, rfl, m, by simp only [if_pos m]⟩
      · exact .inl (by simp only [if_neg m])
section
variable {K : PySem.W.Frag} {mg : Str → Option Value} {W : WX} {B : Bg} {F H : Hp} {r : En} {σ : St}
theorem repL_app : ∀ {ds es : List D} {vs ws : List V}, repL K mg F ds vs → repL K mg F es ws → repL K mg F (ds ++ es) (vs ++ ws)
  | [], _, _, _, h, h' => by
    cases h
    exact h'
  | d :: ds, _, _, _, h, h' => by
    obtain ⟨w, ws, rfl, h1, h2⟩ := h
    exact ⟨w, _, rfl, h1, repL_app h2 h'⟩
theorem Rel.growN {F' H' : Hp} (R : Rel K mg B F H r σ) (g : Grow [] F H F' H') : Rel K mg B F' H' r σ := R.grow (fun a o h => g.h a o List.not_mem_nil h) g.f g.fh g.fr
/-- the slot's object was changed in a way that is not known -/
theorem Rel.lose {F' H' : Hp} {i : Nat} {s : Sl} {pa : Addr} (R : Rel K mg B F H r σ) (hs : r[i]? = some (some s)) (m : s.mine = true) (e : σ[i]? = some (some (.ref pa))) (g : Grow (fp H pa s.d) F H F' H') (hz : ∀ a ∈ fp H pa s.d, H' a ≠ none) : Rel K mg B F' H' (r.set i none) σ := by
  obtain ⟨hA, _, ho⟩ := R.own_at hs m e
  have oth : ∀ (j : Nat) (t : Sl) (q : Addr), i ≠ j → r[j]? = some (some t) → t.mine = true → σ[j]? = some (some (.ref q)) → ∀ a ∈ fp H q t.d, H' a = H a ∧ (F a = none → F' a = none) := fun j t q ne hj mt ej a ha => by
    have na : a ∉ fp H pa s.d := fun z => R.apart i j s t pa q ne hs hj m mt e ej a z ha
    obtain ⟨o, hoa⟩ := fp_live t.d (R.own_at hj mt ej).2.2 a ha
    exact ⟨by rw [hoa]; exact g.h a o na hoa, fun z => g.fr a z (by rw [hoa]; exact fun w => nomatch w)⟩
  refine ⟨g.fh, R.f0.trans g.f, fun a o hb ho' => ?_, fun a h1 h2 => ?_, fun a hb => ?_, by rw [List.length_set]; exact R.len, fun j t hj => ?_, fun a b s1 t1 p1 q1 ne ha hb ms mt ea eb x hx hy => ?_⟩
  · have na : a ∉ fp H pa s.d := fun z => by
      rcases (hA a z).2 with w | w
      · exact hb w
      · rw [w] at ho'
        cases ho'
    exact g.h a o na (R.keep a o hb ho')
  · have h3 := R.fresh a h1 h2
    by_cases hb : a ∈ B.bs
    · exact g.fr a h3 (R.live a hb).1
    · cases q : B.H a with
      | none => exact absurd q h2
      | some o => exact g.fr a h3 (by rw [R.keep a o hb q]; exact fun z => nomatch z)
  · obtain ⟨h1, h2⟩ := R.live a hb
    refine ⟨?_, h2⟩
    by_cases ne : a ∈ fp H pa s.d
    · exact hz a ne
    · cases q : H a with
      | none => exact absurd q h1
      | some o => rw [g.h _ _ ne q]; exact fun z => nomatch z
  · rw [get_set] at hj
    by_cases q : i = j
    · rw [if_pos q] at hj
      split at hj <;> cases hj
    · rw [if_neg q] at hj
      exact (R.slot j t hj).mono g.f fun mt q1 ej => oth j t q1 q hj mt ej
  · rw [get_set] at ha hb
    have key : ∀ (c : Nat) (u : Sl), (if i = c then (if c < r.length then some none else none) else r[c]?) = some (some u) → i ≠ c ∧ r[c]? = some (some u) := fun c u hc => by
      by_cases q : i = c
      · rw [if_pos q] at hc
        split at hc <;> cases hc
      · rw [if_neg q] at hc
        exact ⟨q, hc⟩
    obtain ⟨n1, ha⟩ := key a s1 ha
    obtain ⟨n2, hb⟩ := key b t1 hb
    rw [fp_eq (oth a s1 p1 n1 ha ms ea p1 fp_head).1] at hx
    rw [fp_eq (oth b t1 q1 n2 hb mt eb q1 fp_head).1] at hy
    exact R.apart a b s1 t1 p1 q1 ne ha hb ms mt ea eb x hx hy
theorem Rel.mine_at (R : Rel K mg B F H r σ) {i : Nat} {s : Sl} (hs : r[i]? = some (some s)) (m : s.mine = true) : ∃ pa, σ[i]? = some (some (.ref pa)) ∧ ownAt K mg F H pa s.d ∧ F pa = none := by
  obtain ⟨p, e, h1, _, h3⟩ := R.own hs m
  exact ⟨p, e, h3, (h1 p fp_head).1⟩
/-- the callee's promise from what the caller wants -/
theorem call_po {den0 : List D → Res D} {ds dds : List D} {vs dvs : List V} {Q : VK} (R : Rel K mg B F H r σ) (h : repL K mg F ds vs) (hd : ∀ F, repL K mg F dds dvs) (p : Po K mg W B F σ (rE K mg) Q (callR (den0 (ds ++ dds)) r)) : spD K mg den0 (vs ++ dvs) H Q (WE W σ) := by
  refine ⟨F, ds ++ dds, R.fh, repL_app h (hd F), ?_⟩
  cases q : den0 (ds ++ dds) with
  | ok d =>
    rw [q] at p
    exact fun v F' H' g x => p v F' H' (R.growN g) g.f x
  | er c fs r' =>
    rw [q] at p
    exact fun C od F' H' m g x => p C od σ F' H' m (R.growN g) g.f x
  | bad =>
    rw [q] at p
    exact p.elim
theorem callB_po {den0 : D → List D → Res (D × D)} {i : Nat} {s : Sl} {pa : Addr} {ds dds : List D} {vs dvs : List V} {Q : VK} (R : Rel K mg B F H r σ) (hs : r[i]? = some (some s)) (m : s.mine = true) (e : σ[i]? = some (some (.ref pa))) (h : repL K mg F ds vs) (hd : ∀ F, repL K mg F dds dvs)
    (p : Po K mg W B F σ (rE K mg) Q (callRB (den0 s.d (ds ++ dds)) i s r)) : spB K mg den0 (.ref pa :: (vs ++ dvs)) H Q (WE W σ) := by
  obtain ⟨hA, nd, ho⟩ := R.own_at hs m e
  refine ⟨F, pa, s.d, ds ++ dds, vs ++ dvs, rfl, R.fh, fun a ha => (hA a ha).1, nd, ho, repL_app h (hd F), ?_⟩
  cases q : den0 s.d (ds ++ dds) with
  | ok dd =>
    obtain ⟨d, d1⟩ := dd
    rw [q] at p
    exact fun v F' H' g lv hq nd' ho' x => p v F' H' (R.mut hs m e g.f g.fh g.h lv g.fr hq nd' ho') g.f x
  | er c fs r' =>
    rw [q] at p
    intro C od F' H' mm g hz x
    exact p C od σ F' H' mm (R.lose hs m e g hz) g.f x
  | bad =>
    rw [q] at p
    exact p.elim
end
end Dl

set_option Elab.async false
set_option linter.all false
set_option maxRecDepth 100000
set_option maxHeartbeats 4000000
namespace Dl
open PySem L2

/-! ### one reading or another -/
def eAlt {α : Type} (f g : En → Res α) : En → Res α := fun r => match f r with
  | .bad => g r
  | x => x
theorem PI.or {X : Cx} {tg e : Expr} {t u : TI} (h : PI X tg e t) (k : PI X tg e u) : PI X tg e (fun σ H Q => t σ H Q ∨ u σ H Q) := ⟨fun pins s σ H Q I z => z.elim (h.run pins s σ H Q I) (k.run pins s σ H Q I)⟩
theorem PT.or {X : Cx} {e : Expr} {t u : TT} (h : PT X e t) (k : PT X e u) : PT X e (fun σ H Q => t σ H Q ∨ u σ H Q) := ⟨fun pins s σ H Q I z => z.elim (h.run pins s σ H Q I) (k.run pins s σ H Q I)⟩
theorem ent_or {α β : Type} {K : PySem.W.Frag} {mg : Str → Option Value} {W : WX} {R : RR α β} {t u : St → Hp → (β → Hp → Prop) → Prop} {f g : En → Res (α × En)} (h : Ent K mg W R t f) (k : Ent K mg W R u g) : Ent K mg W R (fun σ H Q => t σ H Q ∨ u σ H Q) (eAlt f g) := by
  intro B F H r σ Q R1 p
  unfold eAlt at p
  cases q : f r with
  | ok a =>
    simp only [q] at p
    exact .inl (h B F H r σ Q R1 (by rw [q]; exact p))
  | er c fs r' =>
    simp only [q] at p
    exact .inl (h B F H r σ Q R1 (by rw [q]; exact p))
  | bad =>
    simp only [q] at p
    exact .inr (k B F H r σ Q R1 p)
section
variable {X : Cx} {W : WX} {e : Expr}
theorem DE.alt {f g : En → Res (D × En)} (h : DE X W e f) (k : DE X W e g) : DE X W e (eAlt f g) := by
  obtain ⟨t, hp, he⟩ := h.ex
  obtain ⟨u, kp, ke⟩ := k.ex
  exact ⟨_, PE.or hp kp, ent_or he ke⟩
theorem DN.alt {f g : En → Res (D × En)} (h : DN X W e f) (k : DN X W e g) : DN X W e (eAlt f g) := by
  obtain ⟨t, hp, he⟩ := h.ex
  obtain ⟨u, kp, ke⟩ := k.ex
  exact ⟨_, PE.or hp kp, ent_or he ke⟩
theorem DT.alt {f g : En → Res (Bool × En)} (h : DT X W e f) (k : DT X W e g) : DT X W e (eAlt f g) := by
  obtain ⟨t, hp, he⟩ := h.ex
  obtain ⟨u, kp, ke⟩ := k.ex
  exact ⟨_, PT.or hp kp, ent_or he ke⟩
theorem DI.alt {tg : Expr} {f g : En → Res (List D × En)} (h : DI X W tg e f) (k : DI X W tg e g) : DI X W tg e (eAlt f g) := by
  obtain ⟨t, hp, he⟩ := h.ex
  obtain ⟨u, kp, ke⟩ := k.ex
  exact ⟨_, PI.or hp kp, ent_or he ke⟩
end

/-! ### calls of defs -/
section
variable {X : Cx} {CX : CXT} {k : Nat} {f C : Addr} {fd : FuncData} {ps : List Str} {sp : Sp} {dvs : List V} {ds : List Value} {E : St → XK} {x m : Str} {p pos apos : Pos} {e o : Expr} {es : List Expr} {ta : TE} {t : TA}
theorem pe_callSD0 (F : FnOk X.prog X.w X.K X.mg X.base CX k f fd ps sp) (hr : Room k X.A) (hg : Gl X x) (hm : X.mg x = some (.ref f)) (hk : PySem.W.keepIn X.K (.ref f) = true) (hb : Binds X.K fd ps ds) (hd : Vals dvs ds) (hx : ∀ σ, PassesAt CX X σ (E σ))
    (hdb : (x == ("__debug__" : Str)) = false := by decide) : PE X (.Call (.Name x p) [] [] pos) (tCallSD sp dvs E tNil) := by
  refine ⟨fun pins s σ H Q I h => ?_⟩
  refine wpAny_Call_Name_kw (ld_glob I hg hm ?_ hdb)
  exact PySem.W.callWith_K0 I.kIn hk (run_fnSD (us := []) F hr hb hd (hx σ) I .nil h)
def tMethSD (C : Addr) (m : Str) (sp : Sp) (dvs : List V) (E : St → XK) (ta : TE) (t : TA) : TE := fun σ H Q => ta σ H fun x H1 => ∃ a dx fs, x = .ref a ∧ H1 a = some (.ins C dx fs) ∧ fs.lookup m = none ∧ t σ H1 fun vs H2 => sp (x :: (vs ++ dvs)) H2 Q (E σ)
theorem pe_methSD {pl : Sem Bool} (he : PE X o ta) (c : Cls X.K C) (hm : Meth X.K C m f) (F : FnOk X.prog X.w X.K X.mg X.base CX k f fd ps sp) (hr : Room k X.A) (hb : Binds X.K fd ps ds) (hd : Vals dvs ds) (hx : ∀ σ, PassesAt CX X σ (E σ)) (ha : PA X (e :: es) t)
    (hst : starEach (e :: es) X.env = (false, eval e X.env) :: starEach es X.env := by rfl) (hpl : (backTo pos (starEach es X.env)).any (·.1) = false := by rfl)
    (ht : eval (.Call (.Attribute o m apos) (e :: es) [] pos) X.env = (do
      let ov ← eval o X.env
      standAt apos.atName
      let (f, first) ← holding [ov] (getMethod ov m pl)
      callWith pos f first (backTo pos (starEach (e :: es) X.env)) (backToKw pos (keywordEach [] X.env))) := by rfl) :
    PE X (.Call (.Attribute o m apos) (e :: es) [] pos) (tMethSD C m sp dvs E ta t) := by
  refine ⟨fun pins s σ H Q I h => ?_⟩
  refine PySem.W.methodCall_KW (pl := pl) (thn (he.run pins s σ H _ I h) fun u s1 ⟨x, H1, I1, rx, a, dx, fs, ex, ea, l, q⟩ => ?_) ht
  subst ex
  obtain rfl : u = Value.ref a := rx
  refine getmeth_ok I1 ea c hm l ?_
  refine PySem.W.callWith_K (first := [.ref a]) (h₀ := X.base) I.ok.mod.kin hm.kp (thn (ha.run pos pins s1 σ H1 _ I1 q) fun us s2 ⟨vs, H2, I2, r, q2⟩ => ⟨I2.kIn, ?_⟩) hst hpl
  exact run_fnSD (us := .ref a :: us) (vs := .ref a :: vs) F hr hb hd (hx σ) I2 (.cons rfl r) q2
theorem pe_methSD0 {pl : Sem Bool} (he : PE X o ta) (c : Cls X.K C) (hm : Meth X.K C m f) (F : FnOk X.prog X.w X.K X.mg X.base CX k f fd ps sp) (hr : Room k X.A) (hb : Binds X.K fd ps ds) (hd : Vals dvs ds) (hx : ∀ σ, PassesAt CX X σ (E σ))
    (ht : eval (.Call (.Attribute o m apos) [] [] pos) X.env = (do
      let ov ← eval o X.env
      standAt apos.atName
      let (f, first) ← holding [ov] (getMethod ov m pl)
      callWith pos f first (backTo pos (starEach [] X.env)) (backToKw pos (keywordEach [] X.env))) := by rfl) :
    PE X (.Call (.Attribute o m apos) [] [] pos) (tMethSD C m sp dvs E ta tNil) := by
  refine ⟨fun pins s σ H Q I h => ?_⟩
  refine PySem.W.methodCall_KW (pl := pl) (thn (he.run pins s σ H _ I h) fun u s1 ⟨x, H1, I1, rx, a, dx, fs, ex, ea, l, q⟩ => ?_) ht
  subst ex
  obtain rfl : u = Value.ref a := rx
  refine getmeth_ok I1 ea c hm l ?_
  exact PySem.W.callWith_K0 (first := [.ref a]) I1.kIn hm.kp (run_fnSD (us := [.ref a]) (vs := [.ref a]) F hr hb hd (hx σ) I1 (.cons rfl .nil) q)
def tMakeSD (C : Addr) (sp : Sp) (dvs : List V) (E : St → XK) (t : TA) : TE := fun σ H Q => t σ H fun vs H1 => ∀ x dx, H1 x = none → H1 dx = none → dx ≠ x →
  sp (.ref x :: (vs ++ dvs)) (upd (upd H1 dx (.own x)) x (.ins C dx [])) (fun v H2 => v = .non ∧ Q (.ref x) H2) (E σ)
theorem run_makeS {pins : List (Addr × Obj)} {σ : St} {H : Hp} {s : Shared} {Q : VK} {us : List Value} {vs : List V} (M : Mk X.K C f) (F : FnOk X.prog X.w X.K X.mg X.base CX k f fd ps sp) (hr : Room (k + 1) X.A) (hb : Binds X.K fd ps ds) (hd : Vals dvs ds)
    (hx : PassesAt CX X σ (E σ)) (I : Inv X pins σ H s) (r : Vals vs us)
    (h : ∀ x dx, H x = none → H dx = none → dx ≠ x → sp (.ref x :: (vs ++ dvs)) (upd (upd H dx (.own x)) x (.ins C dx [])) (fun v H2 => v = .non ∧ Q (.ref x) H2) (E σ)) :
    wpAny (model X.prog X.w) X.A (call (.ref C) us) (EP X pins σ Q) X.xe s := by
  have hq := h (s.heap.objs.size + 1) s.heap.objs.size (I.hok.fresh (Nat.le_succ _)) (I.hok.fresh (Nat.le_refl _)) (Nat.ne_of_lt (Nat.lt_succ_self _))
  have I2 := Inv.made (C := C) I
  have r2 : Vals (V.ref (s.heap.objs.size + 1) :: (vs ++ dvs)) (Value.ref (s.heap.objs.size + 1) :: (us ++ ds)) := .cons rfl (r.append hd)
  have hl : (Value.ref (s.heap.objs.size + 1) :: us ++ ds).length = ps.length := by
    have e := r2.length
    rw [F.len _ _ _ _ hq] at e
    exact e.symm
  refine wpAny_call (make_map (f := f) I.kIn M.makes M.init (beq_iff_eq.mp M.fn) (codeAny_mono (F.run _ X.stack _ _ ⟨Value.ref (s.heap.objs.size + 1) :: us, []⟩ (Value.ref (s.heap.objs.size + 1) :: (us ++ ds)) _ _ (E σ) (hr.make C us [])
    (I2.env0.make C us []) (hb _ (Value.ref (s.heap.objs.size + 1) :: us) I2.kIn hl) r2 hq) fun r s' hq' => ?_))
  cases r with
  | error e => exact hx pins _ _ e s' I2 hq'
  | ok fl =>
    cases fl with
    | ret u =>
      obtain ⟨v, H', I3, rv, ev, q3⟩ := I2.after hq'
      subst ev
      exact ⟨rv, ⟨V.ref (s.heap.objs.size + 1), H', I3, rfl, q3⟩⟩
    | next => exact False.elim hq'
    | brk => exact False.elim hq'
    | cont => exact False.elim hq'
theorem pe_makeSD (M : Mk X.K C f) (F : FnOk X.prog X.w X.K X.mg X.base CX k f fd ps sp) (hr : Room (k + 1) X.A) (hg : Gl X x) (hm : X.mg x = some (.ref C)) (hb : Binds X.K fd ps ds) (hd : Vals dvs ds) (hx : ∀ σ, PassesAt CX X σ (E σ))
    (ha : PA X (e :: es) t) (hdb : (x == ("__debug__" : Str)) = false := by decide) (he : starEach (e :: es) X.env = (false, eval e X.env) :: starEach es X.env := by rfl) (hpl : (backTo pos (starEach es X.env)).any (·.1) = false := by rfl) :
    PE X (.Call (.Name x p) (e :: es) [] pos) (tMakeSD C sp dvs E t) := by
  refine ⟨fun pins s σ H Q I h => ?_⟩
  refine wpAny_Call_Name_kw (ld_glob I hg hm ?_ hdb)
  refine PySem.W.callWith_K (h₀ := X.base) I.ok.mod.kin M.kp (thn (ha.run pos pins s σ H _ I h) fun us s1 ⟨vs, H1, I1, r, q⟩ => ⟨I1.kIn, ?_⟩) he hpl
  exact run_makeS M F hr hb hd (hx σ) I1 r q
end
section
variable {X : Cx} {W : WX} {k j : Nat} {f C : Addr} {x m c y : Str} {p pos apos q : Pos} {e o : Expr} {es : List Expr} {fa : En → Res (List D × En)} {fo : En → Res (BV × En)} {den : List D → Res D} {denB : D → List D → Res (D × D)}
/-- f(e, ..) -/
theorem de_call (F : CalA X.prog X.w X.K X.mg X.base k f den) (tk : Takes X W) (hr : Room j X.A) (hk : k ≤ j) (hg : Gl X x) (hm : X.mg x = some (.ref f)) (ha : DA X W (e :: es) fa) (hdb : (x == ("__debug__" : Str)) = false := by decide)
    (he : starEach (e :: es) X.env = (false, eval e X.env) :: starEach es X.env := by rfl) (hpl : (backTo pos (starEach es X.env)).any (·.1) = false := by rfl) : DE X W (.Call (.Name x p) (e :: es) [] pos) (eCall den fa) := by
  obtain ⟨fd, ps, ds, dvs, dds, den0, G, hb, hd, hdd, rfl⟩ := F.ex
  obtain ⟨t, pa, ea⟩ := ha.ex
  refine ⟨_, pe_callSD (E := WE W) G (hr.mono hk) hg hm F.kp hb hd (fun σ => passAt tk σ) pa hdb he hpl, fun B F H r σ Q R p => ea.to R p fun as r1 vs F1 H1 R1 s1 x1 p1 => ?_⟩
  exact call_po R1 x1 hdd p1
theorem de_call0 (F : CalA X.prog X.w X.K X.mg X.base k f den) (tk : Takes X W) (hr : Room j X.A) (hk : k ≤ j) (hg : Gl X x) (hm : X.mg x = some (.ref f)) (hdb : (x == ("__debug__" : Str)) = false := by decide) : DE X W (.Call (.Name x p) [] [] pos) (eCall den aNil) := by
  obtain ⟨fd, ps, ds, dvs, dds, den0, G, hb, hd, hdd, rfl⟩ := F.ex
  exact ⟨_, pe_callSD0 (E := WE W) G (hr.mono hk) hg hm F.kp hb hd (fun σ => passAt tk σ) hdb, fun B F H r σ Q R p => call_po (ds := []) (vs := []) R rfl hdd p⟩
/-- f(y, e, ..), y's object may be changed -/
theorem de_callB {i : Nat} (F : CalB X.prog X.w X.K X.mg X.base k f denB) (tk : Takes X W) (hr : Room j X.A) (hk : k ≤ j) (hg : Gl X x) (hm : X.mg x = some (.ref f)) (ha : DA X W es fa) (hN : X.N[i]? = some y := by rfl)
    (hv : Vis X.env.scope y := by first | exact Or.inl rfl | exact Or.inr (Or.inl rfl) | exact Or.inr (Or.inr rfl)) (hyd : (y == ("__debug__" : Str)) = false := by decide) (hcd : (y == ("__classdict__" : Str)) = false := by decide) (hdb : (x == ("__debug__" : Str)) = false := by decide)
    (he : starEach (.Name y q :: es) X.env = (false, eval (.Name y q) X.env) :: starEach es X.env := by rfl) (hpl : (backTo pos (starEach es X.env)).any (·.1) = false := by rfl) : DE X W (.Call (.Name x p) (.Name y q :: es) [] pos) (eCallB denB i fa) := by
  obtain ⟨fd, ps, ds, dvs, dds, den0, G, hb, hd, hdd, rfl⟩ := F.ex
  obtain ⟨t, pa, ea⟩ := ha.ex
  refine ⟨_, pe_callSD (E := WE W) G (hr.mono hk) hg hm F.kp hb hd (fun σ => passAt tk σ) (pa_cons (pe_var hN hv hyd hcd) pa he) hdb he hpl, fun B F H r σ Q R p => ?_⟩
  unfold eCallB at p
  by_cases hm0 : isMine r i = true
  · rw [if_pos hm0] at p
    obtain ⟨s0, hs0, m0⟩ := isMine_ok hm0
    obtain ⟨pa, e0, _⟩ := R.mine_at hs0 m0
    refine ⟨_, e0, ea.to R p fun as r1 vs F1 H1 R1 s1 x1 p1 => ?_⟩
    rcases atMine_cases r1 i (fun s => callRB (den0 s.d (as ++ dds)) i s r1) with z | ⟨s, hs, m, z⟩
    · simp only [z] at p1
      exact p1.elim
    · simp only [z] at p1
      exact callB_po R1 hs m e0 x1 hdd p1
  · rw [if_neg hm0] at p
    exact p.elim
/-! ### methods -/
def hasNo (fs : List (Str × D)) (m : Str) : Bool := fs.all fun q => decide (q.1 ≠ m)
def eMeth (c m : Str) (den : List D → Res D) (fo : En → Res (D × En)) (fa : En → Res (List D × En)) : En → Res (D × En) := fun r => (fo r).bind fun p => match p.1 with
  | .ins c' fs => if c' = c ∧ hasNo fs m = true then (fa p.2).bind fun q => callR (den (.ins c' fs :: q.1)) q.2 else .bad
  | _ => .bad
theorem repF_none {K : PySem.W.Frag} {mg : Str → Option Value} {F : Hp} {m : Str} : ∀ {fs : List (Str × D)} {ws : List (Str × V)}, repF K mg F fs ws → hasNo fs m = true → ws.lookup m = none
  | [], _, h, _ => by
    cases h
    rfl
  | (k, d) :: fs, _, h, n => by
    obtain ⟨w, ws, rfl, h1, h2⟩ := h
    have n' : (decide (k ≠ m) && hasNo fs m) = true := n
    rw [Bool.and_eq_true] at n'
    have ne : ¬ (m == k) = true := fun z => (of_decide_eq_true n'.1) (beq_iff_eq.mp z).symm
    rw [List.lookup_cons]
    cases z : (m == k) with
    | true => exact absurd z ne
    | false => exact repF_none h2 n'.2
theorem repV_none {K : PySem.W.Frag} {mg : Str → Option Value} {F : Hp} {m : Str} : ∀ {fs : List (Str × D)} {ws : List (Str × V)}, repV K mg F fs ws → hasNo fs m = true → ws.lookup m = none
  | [], _, h, _ => by
    cases h
    rfl
  | (k, d) :: fs, _, h, n => by
    obtain ⟨w, ws, rfl, h1, h2⟩ := h
    have n' : (decide (k ≠ m) && hasNo fs m) = true := n
    rw [Bool.and_eq_true] at n'
    have ne : ¬ (m == k) = true := fun z => (of_decide_eq_true n'.1) (beq_iff_eq.mp z).symm
    rw [List.lookup_cons]
    cases z : (m == k) with
    | true => exact absurd z ne
    | false => exact repV_none h2 n'.2
theorem de_meth {pl : Sem Bool} {ff : En → Res (D × En)} (F : CalA X.prog X.w X.K X.mg X.base k f den) (tk : Takes X W) (hr : Room j X.A) (hk : k ≤ j) (hc : X.mg c = some (.ref C)) (cl : Cls X.K C) (hm : Meth X.K C m f) (ho : DE X W o ff) (ha : DA X W (e :: es) fa)
    (hst : starEach (e :: es) X.env = (false, eval e X.env) :: starEach es X.env := by rfl) (hpl : (backTo pos (starEach es X.env)).any (·.1) = false := by rfl)
    (ht : eval (.Call (.Attribute o m apos) (e :: es) [] pos) X.env = (do
      let ov ← eval o X.env
      standAt apos.atName
      let (f, first) ← holding [ov] (getMethod ov m pl)
      callWith pos f first (backTo pos (starEach (e :: es) X.env)) (backToKw pos (keywordEach [] X.env))) := by rfl) : DE X W (.Call (.Attribute o m apos) (e :: es) [] pos) (eMeth c m den ff fa) := by
  obtain ⟨fd, ps, ds, dvs, dds, den0, G, hb, hd, hdd, rfl⟩ := F.ex
  obtain ⟨to, po, eo⟩ := ho.ex
  obtain ⟨t, pa, ea⟩ := ha.ex
  refine ⟨_, pe_methSD (E := WE W) po cl hm G (hr.mono hk) hb hd (fun σ => passAt tk σ) pa hst hpl ht, fun B F H r σ Q R p => eo.to R p fun d r1 v F1 H1 R1 s1 x1 p1 => ?_⟩
  cases d with
  | ins c' fs =>
    simp only at p1
    by_cases hcc : c' = c ∧ hasNo fs m = true
    · rw [if_pos hcc] at p1
      obtain ⟨rfl, hn⟩ := hcc
      obtain ⟨a, C', dx, ws, rfl, hC, hF, hrf⟩ := id x1
      rw [hc] at hC
      cases hC
      refine ⟨a, dx, ws, rfl, R1.fh _ _ hF, repF_none hrf hn, ea.to R1 p1 fun as r2 vs F2 H2 R2 s2 x2 p2 => ?_⟩
      exact call_po (ds := .ins c' fs :: as) (vs := .ref a :: vs) R2 ⟨_, _, rfl, rep_mono s2 _ _ x1, x2⟩ hdd p2
    · rw [if_neg hcc] at p1
      exact p1.elim
  | _ => exact p1.elim
theorem de_meth0 {pl : Sem Bool} {ff : En → Res (D × En)} (F : CalA X.prog X.w X.K X.mg X.base k f den) (tk : Takes X W) (hr : Room j X.A) (hk : k ≤ j) (hc : X.mg c = some (.ref C)) (cl : Cls X.K C) (hm : Meth X.K C m f) (ho : DE X W o ff)
    (ht : eval (.Call (.Attribute o m apos) [] [] pos) X.env = (do
      let ov ← eval o X.env
      standAt apos.atName
      let (f, first) ← holding [ov] (getMethod ov m pl)
      callWith pos f first (backTo pos (starEach [] X.env)) (backToKw pos (keywordEach [] X.env))) := by rfl) : DE X W (.Call (.Attribute o m apos) [] [] pos) (eMeth c m den ff aNil) := by
  obtain ⟨fd, ps, ds, dvs, dds, den0, G, hb, hd, hdd, rfl⟩ := F.ex
  obtain ⟨to, po, eo⟩ := ho.ex
  refine ⟨_, pe_methSD0 (E := WE W) po cl hm G (hr.mono hk) hb hd (fun σ => passAt tk σ) ht, fun B F H r σ Q R p => eo.to R p fun d r1 v F1 H1 R1 s1 x1 p1 => ?_⟩
  cases d with
  | ins c' fs =>
    simp only at p1
    by_cases hcc : c' = c ∧ hasNo fs m = true
    · rw [if_pos hcc] at p1
      obtain ⟨rfl, hn⟩ := hcc
      obtain ⟨a, C', dx, ws, rfl, hC, hF, hrf⟩ := id x1
      rw [hc] at hC
      cases hC
      refine ⟨a, dx, ws, rfl, R1.fh _ _ hF, repF_none hrf hn, ?_⟩
      exact call_po (ds := [.ins c' fs]) (vs := [.ref a]) R1 ⟨_, _, rfl, x1, rfl⟩ hdd p1
    · rw [if_neg hcc] at p1
      exact p1.elim
  | _ => exact p1.elim
/-- y.m(e, ..) where y's object is one's own or borrowed: it may be changed -/
def eMethB (c m : Str) (den : D → List D → Res (D × D)) (i : Nat) (fa : En → Res (List D × En)) : En → Res (D × En) := fun r => atMine r i fun s0 => match s0.d with
  | .ins c' fs => if c' = c ∧ hasNo fs m = true then (fa r).bind fun q => atMine q.2 i fun s => callRB (den s.d q.1) i s q.2 else .bad
  | _ => .bad
theorem methB_ent {i : Nat} {t : TA} {den0 : D → List D → Res (D × D)} {dvs : List V} {dds : List D} (hc : X.mg c = some (.ref C)) (hdd : ∀ F, repL X.K X.mg F dds dvs) (ea : Ent X.K X.mg W (rA X.K X.mg) t fa) :
    Ent X.K X.mg W (rE X.K X.mg) (tMethSD C m (spB X.K X.mg den0) dvs (WE W) (tVar i) t) (eMethB c m (fun d as => den0 d (as ++ dds)) i fa) := by
  intro B F H r σ Q R p
  unfold eMethB at p
  rcases atMine_cases r i (fun s0 => match s0.d with
    | .ins c' fs => if c' = c ∧ hasNo fs m = true then (fa r).bind fun q => atMine q.2 i fun s => callRB (den0 s.d (q.1 ++ dds)) i s q.2 else .bad
    | _ => .bad) with z | ⟨s0, hs0, m0, z⟩
  · rw [z] at p
    exact p.elim
  · rw [z] at p
    obtain ⟨pa, e0, ho, _⟩ := R.mine_at hs0 m0
    cases hd : s0.d with
    | ins c' fs =>
      simp only [hd] at p
      rw [hd] at ho
      by_cases hcc : c' = c ∧ hasNo fs m = true
      · rw [if_pos hcc] at p
        obtain ⟨rfl, hn⟩ := hcc
        obtain ⟨C', dx, ws, hC, hH, hrf⟩ := ho
        rw [hc] at hC
        cases hC
        refine ⟨_, e0, pa, dx, ws, rfl, hH, repV_none (repV_own hrf) hn, ea.to R p fun as r1 vs F1 H1 R1 s1 x1 p1 => ?_⟩
        rcases atMine_cases r1 i (fun s => callRB (den0 s.d (as ++ dds)) i s r1) with z | ⟨s, hs, m, z⟩
        · simp only [z] at p1
          exact p1.elim
        · simp only [z] at p1
          exact callB_po R1 hs m e0 x1 hdd p1
      · rw [if_neg hcc] at p
        exact p.elim
    | _ =>
      simp only [hd] at p
      exact p.elim
theorem de_methB {pl : Sem Bool} {i : Nat} (F : CalB X.prog X.w X.K X.mg X.base k f denB) (tk : Takes X W) (hr : Room j X.A) (hk : k ≤ j) (hc : X.mg c = some (.ref C)) (cl : Cls X.K C) (hm : Meth X.K C m f) (ha : DA X W (e :: es) fa) (hN : X.N[i]? = some y := by rfl)
    (hv : Vis X.env.scope y := by first | exact Or.inl rfl | exact Or.inr (Or.inl rfl) | exact Or.inr (Or.inr rfl)) (hyd : (y == ("__debug__" : Str)) = false := by decide) (hcd : (y == ("__classdict__" : Str)) = false := by decide)
    (hst : starEach (e :: es) X.env = (false, eval e X.env) :: starEach es X.env := by rfl) (hpl : (backTo pos (starEach es X.env)).any (·.1) = false := by rfl)
    (ht : eval (.Call (.Attribute (.Name y q) m apos) (e :: es) [] pos) X.env = (do
      let ov ← eval (.Name y q) X.env
      standAt apos.atName
      let (f, first) ← holding [ov] (getMethod ov m pl)
      callWith pos f first (backTo pos (starEach (e :: es) X.env)) (backToKw pos (keywordEach [] X.env))) := by rfl) : DE X W (.Call (.Attribute (.Name y q) m apos) (e :: es) [] pos) (eMethB c m denB i fa) := by
  obtain ⟨fd, ps, ds, dvs, dds, den0, G, hb, hd, hdd, rfl⟩ := F.ex
  obtain ⟨t, pa, ea⟩ := ha.ex
  exact ⟨_, pe_methSD (E := WE W) (pe_var hN hv hyd hcd) cl hm G (hr.mono hk) hb hd (fun σ => passAt tk σ) pa hst hpl ht, methB_ent hc hdd ea⟩
theorem de_methB0 {pl : Sem Bool} {i : Nat} (F : CalB X.prog X.w X.K X.mg X.base k f denB) (tk : Takes X W) (hr : Room j X.A) (hk : k ≤ j) (hc : X.mg c = some (.ref C)) (cl : Cls X.K C) (hm : Meth X.K C m f) (hN : X.N[i]? = some y := by rfl)
    (hv : Vis X.env.scope y := by first | exact Or.inl rfl | exact Or.inr (Or.inl rfl) | exact Or.inr (Or.inr rfl)) (hyd : (y == ("__debug__" : Str)) = false := by decide) (hcd : (y == ("__classdict__" : Str)) = false := by decide)
    (ht : eval (.Call (.Attribute (.Name y q) m apos) [] [] pos) X.env = (do
      let ov ← eval (.Name y q) X.env
      standAt apos.atName
      let (f, first) ← holding [ov] (getMethod ov m pl)
      callWith pos f first (backTo pos (starEach [] X.env)) (backToKw pos (keywordEach [] X.env))) := by rfl) : DE X W (.Call (.Attribute (.Name y q) m apos) [] [] pos) (eMethB c m denB i aNil) := by
  obtain ⟨fd, ps, ds, dvs, dds, den0, G, hb, hd, hdd, rfl⟩ := F.ex
  exact ⟨_, pe_methSD0 (E := WE W) (pe_var hN hv hyd hcd) cl hm G (hr.mono hk) hb hd (fun σ => passAt tk σ) ht, methB_ent hc hdd fun B F H r σ Q R p => p [] F H R (Same.refl F) rfl⟩
/-! ### C(e, ..) -/
def eMake (c : Str) (den : D → List D → Res (D × D)) (fa : En → Res (List D × En)) : En → Res (D × En) := fun r => (fa r).bind fun p => match den (.ins c []) p.1 with
  | .ok (.non, d1) => if noOwn d1 = true then .ok (d1, p.2) else .bad
  | .er c' fs _ => .er c' fs p.2
  | _ => .bad
theorem dn_make (F : CalB X.prog X.w X.K X.mg X.base k f denB) (tk : Takes X W) (hr : Room j X.A) (hk : k + 1 ≤ j) (hg : Gl X x) (hc : X.mg x = some (.ref C)) (M : Mk X.K C f) (ha : DA X W (e :: es) fa) (hdb : (x == ("__debug__" : Str)) = false := by decide)
    (he : starEach (e :: es) X.env = (false, eval e X.env) :: starEach es X.env := by rfl) (hpl : (backTo pos (starEach es X.env)).any (·.1) = false := by rfl) : DN X W (.Call (.Name x p) (e :: es) [] pos) (eMake x denB fa) := by
  obtain ⟨fd, ps, ds, dvs, dds, den0, G, hb, hd, hdd, rfl⟩ := F.ex
  obtain ⟨t, pa, ea⟩ := ha.ex
  refine ⟨_, pe_makeSD (E := WE W) M G (hr.mono hk) hg hc hb hd (fun σ => passAt tk σ) pa hdb he hpl, fun B F H r σ Q R p => ea.to R p fun as r1 vs F1 H1 R1 s1 x1 p1 => ?_⟩
  intro a dx na ndx nd
  have fa0 : F1 a = none := R1.fh.free na
  have sm : Same H1 (upd (upd H1 dx (.own a)) a (.ins C dx [])) := fun b o hb => by
    rw [upd_ne (ne_of_none hb na), upd_ne (ne_of_none hb ndx)]
    exact hb
  have ne2 : ∀ b, H1 b ≠ none → upd (upd H1 dx (.own a)) a (.ins C dx []) b ≠ none := fun b hb => by
    cases z : H1 b with
    | none => exact absurd z hb
    | some o => rw [sm b o z]; exact fun z => nomatch z
  have e1 : fp (upd (upd H1 dx (.own a)) a (.ins C dx [])) a (.ins x []) = [a] := fp_one rfl
  refine ⟨F1, a, .ins x [], as ++ dds, vs ++ dvs, rfl, R1.fh.trans sm, fun b hb => ?_, by rw [e1]; simp, ⟨C, dx, [], hc, upd_same, rfl⟩, repL_app x1 (hdd F1), ?_⟩
  · rw [e1] at hb
    rw [List.mem_singleton.mp hb]
    exact fa0
  rw [e1]
  simp only at p1
  cases z : den0 (.ins x []) (as ++ dds) with
  | ok dd =>
    obtain ⟨d, d1⟩ := dd
    rw [z] at p1
    intro v F' H' g lv hq nd' ho' hrep
    cases d with
    | non =>
      refine ⟨hrep, ?_⟩
      simp only at p1
      by_cases no : noOwn d1 = true
      · rw [if_pos no] at p1
        have eH : Same H1 H' := fun b o hb => g.h b o (fun w => by rw [List.mem_singleton.mp w, na] at hb; cases hb) (sm b o hb)
        have R2 : Rel X.K X.mg B F' H' r1 σ := R1.grow eH g.f g.fh fun b h1 h2 => g.fr b h1 (ne2 b h2)
        refine p1 _ F' H' R2 g.f ⟨a, rfl, (hq a fp_head).1, (R1.new_ne na).1, (R1.new_ne na).2, fun i s q hi ms ei ha => ?_, ownS_of no ho'⟩
        obtain ⟨o1, h1⟩ := own_there s.d (R1.own_at hi ms ei).2.2
        rw [fp_eq ((eH _ _ h1).trans h1.symm)] at ha
        exact R1.loose_new0 na i s q hi ms ei ha
      · rw [if_neg no] at p1
        exact p1.elim
    | _ => exact p1.elim
  | er c' fs r' =>
    rw [z] at p1
    intro C' od F' H' mm g hz hx
    have R2 : Rel X.K X.mg B F' H' r1 σ := R1.grow (fun b o hb => g.h b o (fun w => by rw [List.mem_singleton.mp w, na] at hb; cases hb) (sm b o hb)) g.f g.fh fun b h1 h2 => g.fr b h1 (ne2 b h2)
    exact p1 C' od σ F' H' mm R2 g.f hx
  | bad =>
    rw [z] at p1
    exact p1.elim
/-! ### attributes -/
def fldD (cs : List Str) (n : Str) : D → Option D
  | .ins c fs => if c ∈ cs then (match fs.lookup n with
    | some (.own _) => none
    | z => z) else none
  | _ => none
theorem repF_look {K : PySem.W.Frag} {mg : Str → Option Value} {F : Hp} {n : Str} {d : D} : ∀ {fs : List (Str × D)} {ws : List (Str × V)}, repF K mg F fs ws → fs.lookup n = some d → ∃ v, ws.lookup n = some v ∧ rep K mg F d v
  | [], _, _, h => by cases h
  | (k, d0) :: fs, _, h, e => by
    obtain ⟨w, ws, rfl, h1, h2⟩ := h
    rw [List.lookup_cons] at e ⊢
    cases z : (n == k) with
    | true =>
      rw [z] at e
      cases e
      exact ⟨w, rfl, h1⟩
    | false =>
      rw [z] at e
      exact repF_look h2 e
theorem repV_look {K : PySem.W.Frag} {mg : Str → Option Value} {F : Hp} {n : Str} {d : D} : ∀ {fs : List (Str × D)} {ws : List (Str × V)}, repV K mg F fs ws → fs.lookup n = some d → ∃ v, ws.lookup n = some v ∧ fldV K mg F d v
  | [], _, _, h => by cases h
  | (k, d0) :: fs, _, h, e => by
    obtain ⟨w, ws, rfl, h1, h2⟩ := h
    rw [List.lookup_cons] at e ⊢
    cases z : (n == k) with
    | true =>
      rw [z] at e
      cases e
      exact ⟨w, rfl, h1⟩
    | false =>
      rw [z] at e
      exact repV_look h2 e
theorem de_fld {cs : List Str} {n : Str} (hcs : ∀ c ∈ cs, ∀ C, X.mg c = some (.ref C) → Cls X.K C ∧ NoAttr X.K C n) (ho : DB X W o fo) (hb : attributeBase o n X.env (eval o X.env) = eval o X.env := by rfl) : DE X W (.Attribute o n pos) (eUn (fldD cs n) fo) := by
  obtain ⟨t, hp, he⟩ := ho.ex
  refine ⟨_, pe_fld hp hb, ?_⟩
  refine un_ent (rr := fun x H1 Q => ∃ a C dx fs v, x = .ref a ∧ H1 a = some (.ins C dx fs) ∧ Cls X.K C ∧ NoAttr X.K C n ∧ fs.lookup n = some v ∧ Q v H1) he (unV_hr ?_)
  intro F H v d z Q sm h1 h3 k
  cases d with
  | ins c fs =>
    unfold fldD at h3
    by_cases hc : c ∈ cs
    · simp only [if_pos hc] at h3
      obtain ⟨a, C, dx, ws, rfl, hC, hH, hrf⟩ := h1
      obtain ⟨k1, k2⟩ := hcs c hc C hC
      cases hl : fs.lookup n with
      | none => simp [hl] at h3
      | some d0 =>
        obtain ⟨w, e1, e2⟩ := repV_look hrf hl
        cases d0 with
        | own d => simp [hl] at h3
        | _ =>
          simp only [hl] at h3
          cases h3
          exact ⟨a, C, dx, ws, w, rfl, hH, k1, k2, e1, k w e2⟩
    · simp only [if_neg hc] at h3
      cases h3
  | _ => cases h3
/-- a constant of the class -/
def conD (c n : Str) (d : D) : D → Option D
  | .ins c' fs => if c' = c ∧ hasNo fs n = true then some d else none
  | _ => none
theorem de_con {n : Str} {d : D} {v : V} {u : Value} (hc : X.mg c = some (.ref C)) (cl : Cls X.K C) (hk : Con X.K C n v u) (hd : ∀ F, rep X.K X.mg F d v) (ho : DB X W o fo) (hb : attributeBase o n X.env (eval o X.env) = eval o X.env := by rfl) : DE X W (.Attribute o n pos) (eUn (conD c n d) fo) := by
  obtain ⟨t, hp, he⟩ := ho.ex
  refine ⟨_, pe_con hp hb, ?_⟩
  refine un_ent (rr := fun x H1 Q => ∃ a C dx fs v u, x = .ref a ∧ H1 a = some (.ins C dx fs) ∧ Cls X.K C ∧ Con X.K C n v u ∧ fs.lookup n = none ∧ Q v H1) he (unV_hr ?_)
  intro F H v0 d0 z Q sm h1 h3 k
  cases d0 with
  | ins c' fs =>
    unfold conD at h3
    by_cases hcc : c' = c ∧ hasNo fs n = true
    · simp only [if_pos hcc] at h3
      cases h3
      obtain ⟨rfl, hn⟩ := hcc
      obtain ⟨a, C', dx, ws, rfl, hC, hH, hrf⟩ := h1
      rw [hc] at hC
      cases hC
      exact ⟨a, C, dx, ws, v, u, rfl, hH, cl, hk, repV_none hrf hn, k v (hd F)⟩
    · simp only [if_neg hcc] at h3
      cases h3
  | _ => cases h3
/-- y.n = e where y's object is one's own or borrowed -/
def putD (n : Str) (d : D) : List (Str × D) → List (Str × D)
  | [] => [(n, d)]
  | (k, d0) :: fs => if k = n then (n, d) :: fs else (k, d0) :: putD n d fs
end
end Dl

set_option Elab.async false
set_option linter.all false
set_option maxRecDepth 100000
set_option maxHeartbeats 4000000
namespace Dl
open PySem L2

/-! ### changing what a slot holds -/
section
variable {K : PySem.W.Frag} {mg : Str → Option Value} {B : Bg} {F H : Hp} {r : En} {σ : St}
theorem Rel.put {i : Nat} {s : Sl} {p : Addr} {d : D} {o : HO} (R : Rel K mg B F H r σ) (hs : r[i]? = some (some s)) (m : s.mine = true) (e : σ[i]? = some (some (.ref p))) (h : ownS K mg F (upd H p o) p d) : Rel K mg B F (upd H p o) (r.set i (some (s.put d))) σ := by
  obtain ⟨_, hF⟩ := R.own_live hs m e
  exact R.mut1 hs m e (Same.refl F) (fun a u ha => by rw [upd_ne (ne_of_none ha hF)]; exact R.fh _ _ ha) (fun a u ne ha => by rw [upd_ne ne]; exact ha) (fun a h1 _ => h1) (ownS_no h) (ownS_at h)
/-- the object at x (of the slot's own ones) is written -/
theorem Rel.putA {i : Nat} {s : Sl} {p x : Addr} {d : D} {o : HO} (R : Rel K mg B F H r σ) (hs : r[i]? = some (some s)) (m : s.mine = true) (e : σ[i]? = some (some (.ref p))) (hx : x ∈ fp H p s.d) (hq : ∀ a ∈ fp (upd H x o) p d, a ∈ fp H p s.d) (nd : (fp (upd H x o) p d).Nodup)
    (h : ownAt K mg F (upd H x o) p d) : Rel K mg B F (upd H x o) (r.set i (some (s.put d))) σ := by
  obtain ⟨hA, _, ho⟩ := R.own_at hs m e
  refine R.mut hs m e (Same.refl F) (fun a u ha => by rw [upd_ne (ne_of_none ha (hA x hx).1)]; exact R.fh _ _ ha) (fun a u na ha => by rw [upd_ne fun z => na (by rw [z]; exact hx)]; exact ha) (fun a ha => ?_) (fun a h1 _ => h1) (fun a ha => ⟨(hA a (hq a ha)).1, .inl (hq a ha)⟩) nd h
  by_cases z : a = x
  · rw [z, upd_same]
    exact fun w => nomatch w
  · rw [upd_ne z]
    obtain ⟨o', ho'⟩ := fp_live s.d ho a ha
    rw [ho']
    exact fun w => nomatch w
theorem fldR_of {d : D} {v : V} (h : rep K mg F d v) : fldR K mg F H d v := by
  cases d with
  | own d => exact h.elim
  | _ => exact h
theorem fldQ_no {d : D} {v : V} (h : rep K mg F d v) : fldQ d v = [] := by
  cases d with
  | own d => exact h.elim
  | _ => rfl
theorem repO_put {n : Str} {d : D} {v : V} (h : rep K mg F d v) : ∀ {fs : List (Str × D)} {ws : List (Str × V)}, repO K mg F H fs ws → repO K mg F H (putD n d fs) (putF n v ws) ∧ (fpF (putD n d fs) (putF n v ws)).Sublist (fpF fs ws)
  | [], _, h' => by
    cases h'
    refine ⟨⟨v, [], rfl, fldR_of h, rfl⟩, ?_⟩
    show (fpF [(n, d)] [(n, v)]).Sublist []
    unfold fpF
    rw [fldQ_no h]
    exact List.Sublist.refl _
  | (k, d0) :: fs, _, h' => by
    obtain ⟨w, ws, rfl, h1, h2⟩ := h'
    unfold putD putF
    by_cases q : k = n
    · rw [if_pos q, if_pos q, q]
      refine ⟨⟨v, ws, rfl, fldR_of h, h2⟩, ?_⟩
      unfold fpF
      rw [fldQ_no h, List.nil_append]
      exact List.sublist_append_right _ _
    · rw [if_neg q, if_neg q]
      obtain ⟨a1, a2⟩ := repO_put h h2
      refine ⟨⟨w, _, rfl, h1, a1⟩, ?_⟩
      unfold fpF
      exact List.Sublist.append_left a2 _
theorem repO_len : ∀ {fs : List (Str × D)} {ws : List (Str × V)}, repO K mg F H fs ws → ws.length = fs.length
  | [], _, h => by
    cases h
    rfl
  | (k, d) :: ds, _, h => by
    obtain ⟨w, ws, rfl, _, h⟩ := h
    simp [repO_len h]
theorem repF_put {n : Str} {d : D} {v : V} (h : rep K mg F d v) : ∀ {fs : List (Str × D)} {ws : List (Str × V)}, repF K mg F fs ws → repF K mg F (putD n d fs) (putF n v ws)
  | [], _, h' => by
    cases h'
    exact ⟨v, [], rfl, h, rfl⟩
  | (k, d0) :: fs, _, h' => by
    obtain ⟨w, ws, rfl, h1, h2⟩ := h'
    unfold putD putF
    by_cases q : k = n
    · rw [if_pos q, if_pos q, q]
      exact ⟨v, ws, rfl, h, h2⟩
    · rw [if_neg q, if_neg q]
      exact ⟨w, _, rfl, h1, repF_put h h2⟩
theorem repF_len : ∀ {fs : List (Str × D)} {ws : List (Str × V)}, repF K mg F fs ws → ws.length = fs.length
  | [], _, h => by
    cases h
    rfl
  | (k, d) :: ds, _, h => by
    obtain ⟨w, ws, rfl, _, h⟩ := h
    simp [repF_len h]
theorem repL_set {d : D} {v : V} (h : rep K mg F d v) : ∀ {ds : List D} {vs : List V} (j : Nat), repL K mg F ds vs → repL K mg F (ds.set j d) (vs.set j v)
  | [], _, _, h' => by
    cases h'
    rfl
  | d0 :: ds, _, 0, h' => by
    obtain ⟨w, ws, rfl, h1, h2⟩ := h'
    exact ⟨v, ws, rfl, h, h2⟩
  | d0 :: ds, _, j + 1, h' => by
    obtain ⟨w, ws, rfl, h1, h2⟩ := h'
    exact ⟨w, _, rfl, h1, repL_set h j h2⟩
end
def atMineS (r : En) (i : Nat) (k : Sl → SR) : SR := match r[i]? with
  | some (some s) => if s.mine = true then k s else .bad
  | _ => .bad
theorem atMineS_cases (r : En) (i : Nat) (k : Sl → SR) : atMineS r i k = .bad ∨ ∃ s, r[i]? = some (some s) ∧ s.mine = true ∧ atMineS r i k = k s := by
  unfold atMineS
  cases e : r[i]? with
  | none => exact .inl rfl
  | some o =>
    cases o with
    | none => exact .inl rfl
    | some s =>
      by_cases m : s.mine = true
      · exact .inr ⟨s, rfl, m, by simp only [if_pos m]⟩
      · exact .inl (by simp only [if_neg m])
/-- y.n = e -/
def sFldSet (cs : List Str) (n : Str) (i : Nat) (f : En → Res (D × En)) : En → SR := fun r => sBind (f r) fun p => atMineS p.2 i fun s => match s.d with
  | .ins c fs => if c ∈ cs ∧ fs.length < 1000 then .nx (p.2.set i (some (s.put (.ins c (putD n p.1 fs))))) else .bad
  | _ => .bad
/-- y.append(e) -/
def sAppend (i : Nat) (f : En → Res (D × En)) : En → SR := fun r => atMineS r i fun s0 => match s0.d with
  | .lst _ => sBind (f r) fun p => atMineS p.2 i fun s => match s.d with
    | .lst ds => if ds.length < 100000 then .nx (p.2.set i (some (s.put (.lst (ds ++ [p.1]))))) else .bad
    | _ => .bad
  | _ => .bad
def extD : D → D → Option D
  | .lst ds, .lst es => if ds.length + es.length < 100000 then some (.lst (ds ++ es)) else none
  | _, _ => none
def sExtend (i : Nat) (f : En → Res (D × En)) : En → SR := fun r => atMineS r i fun s0 => match s0.d with
  | .lst _ => sBind (f r) fun p => atMineS p.2 i fun s => match extD s.d p.1 with
    | some z => .nx (p.2.set i (some (s.put z)))
    | none => .bad
  | _ => .bad
section
variable {X : Cx} {W : WX} {e : Expr} {y : Str} {i : Nat} {pos pos' apos q : Pos} {f : En → Res (D × En)}
theorem ds_fldset {cs : List Str} {n : Str} (hcs : ∀ c ∈ cs, ∀ C, X.mg c = some (.ref C) → Cls X.K C ∧ NoAttr X.K C n) (hf : DE X W e f) (hN : X.N[i]? = some y := by rfl) (hv : Vis X.env.scope y := by first | exact Or.inl rfl | exact Or.inr (Or.inl rfl) | exact Or.inr (Or.inr rfl))
    (hyd : (y == ("__debug__" : Str)) = false := by decide) (hcd : (y == ("__classdict__" : Str)) = false := by decide) (hs : swapsWith e (some (.Attribute (.Name y q) n pos')) pos.line X.env = pure false := by rfl) :
    DS X W (.Assign [.Attribute (.Name y q) n pos'] e pos) (sFldSet cs n i f) := by
  obtain ⟨t, hp, he⟩ := hf.ex
  refine ⟨_, ps_fld (pe_var hN hv hyd hcd) hp hs, fun B F H r σ Z R p => he.toS R p fun d r1 v F1 H1 R1 s1 x1 p1 => ?_⟩
  rcases atMineS_cases r1 i (fun s => match s.d with
    | .ins c fs => if c ∈ cs ∧ fs.length < 1000 then .nx (r1.set i (some (s.put (.ins c (putD n d fs))))) else .bad
    | _ => .bad) with z | ⟨s, hs, m, z⟩
  · simp only [z] at p1
    exact p1.elim
  · simp only [z] at p1
    obtain ⟨pa, e0, ho, _⟩ := R1.mine_at hs m
    cases hd : s.d with
    | ins c fs =>
      simp only [hd] at p1
      rw [hd] at ho
      by_cases hc : c ∈ cs ∧ fs.length < 1000
      · simp only [if_pos hc] at p1
        obtain ⟨C, dx, ws, hC, hH, hrf⟩ := ho
        obtain ⟨k1, k2⟩ := hcs c hc.1 C hC
        refine ⟨_, e0, pa, C, dx, ws, rfl, hH, k1, k2, by rw [repO_len hrf]; exact hc.2, ?_⟩
        obtain ⟨_, nd, _⟩ := R1.own_at hs m e0
        rw [hd] at nd
        have efp : fp H1 pa (.ins c fs) = pa :: fpF fs ws := by
          unfold fp
          simp only [hH]
        rw [efp, List.nodup_cons] at nd
        obtain ⟨a1, a2⟩ := repO_put (n := n) x1 hrf
        have efq : ∀ o, fp (upd H1 pa (.ins C dx o)) pa (.ins c (putD n d fs)) = pa :: fpF (putD n d fs) o := fun o => by
          unfold fp
          simp only [upd_same]
        refine p1 σ F1 _ (R1.putA hs m e0 fp_head (fun a ha => ?_) ?_ ⟨C, dx, _, hC, upd_same, repO_mono (Same.refl F1) (fun a ha => upd_ne fun z => nd.1 (a2.subset (by rw [← z]; exact ha))) a1⟩) (Same.refl F1)
        · rw [efq] at ha
          rw [hd, efp]
          rcases List.mem_cons.mp ha with z | z
          · rw [z]; exact List.mem_cons_self ..
          · exact List.mem_cons_of_mem _ (a2.subset z)
        · rw [efq, List.nodup_cons]
          exact ⟨fun z => nd.1 (a2.subset z), nd.2.sublist a2⟩
      · simp only [if_neg hc] at p1
        exact p1.elim
    | _ =>
      simp only [hd] at p1
      exact p1.elim
theorem ds_append (hf : DE X W e f) (hN : X.N[i]? = some y := by rfl) (hv : Vis X.env.scope y := by first | exact Or.inl rfl | exact Or.inr (Or.inl rfl) | exact Or.inr (Or.inr rfl))
    (hyd : (y == ("__debug__" : Str)) = false := by decide) (hcd : (y == ("__classdict__" : Str)) = false := by decide)
    (hbase : attributeBase (.Name y q) "append" X.env (eval (.Name y q) X.env) = eval (.Name y q) X.env := by rfl)
    (hfew : ((backTo pos' (starEach [e] X.env)).all (fun x => !x.1) && (backToKw pos' (keywordEach [] X.env)).all (fun x => x.1.isSome)
      && decide (([e] : List Expr).length + ([] : List Keyword).length + (if ([] : List Keyword).isEmpty then 0 else 1) < 30)) = true := by rfl)
    (hline : (apos.endLine == pos'.line) = true := by rfl) (hst : starEach [e] X.env = (false, eval e X.env) :: starEach [] X.env := by rfl)
    (hs : swapsWith (.Call (.Attribute (.Name y q) "append" apos) [e] [] pos') none pos.line X.env = pure false := by rfl) :
    DS X W (.Expr (.Call (.Attribute (.Name y q) "append" apos) [e] [] pos') pos) (sAppend i f) := by
  obtain ⟨t, hp, he⟩ := hf.ex
  refine ⟨_, ps_expr (pe_bm PySem.F.plainAttrs_list PySem.F.slot_list_append PySem.F.type_list_append mt_append (pe_var hN hv hyd hcd) (pa_cons hp pa_nil hst) hbase hfew hline hst rfl) hs, fun B F H r σ Z R p => ?_⟩
  unfold sAppend at p
  rcases atMineS_cases r i (fun s0 => match s0.d with
    | .lst _ => sBind (f r) fun p => atMineS p.2 i fun s => match s.d with
      | .lst ds => if ds.length < 100000 then .nx (p.2.set i (some (s.put (.lst (ds ++ [p.1]))))) else .bad
      | _ => .bad
    | _ => .bad) with z | ⟨s0, hs0, m0, z⟩
  · rw [z] at p
    exact p.elim
  · rw [z] at p
    obtain ⟨pa, e0, ho, _⟩ := R.mine_at hs0 m0
    cases hd0 : s0.d with
    | lst ds0 =>
      simp only [hd0] at p
      rw [hd0] at ho
      obtain ⟨xs0, hH0, _⟩ := ho
      refine ⟨_, e0, .inl ⟨rfl, _, SqL.of hH0⟩, he.toS R p fun d r1 v F1 H1 R1 s1 x1 p1 => ?_⟩
      rcases atMineS_cases r1 i (fun s => match s.d with
        | .lst ds => if ds.length < 100000 then .nx (r1.set i (some (s.put (.lst (ds ++ [d]))))) else .bad
        | _ => .bad) with z | ⟨s, hs, m, z⟩
      · simp only [z] at p1
        exact p1.elim
      · simp only [z] at p1
        obtain ⟨pa', e1, ho, _⟩ := R1.mine_at hs m
        rw [e0] at e1
        cases e1
        cases hd : s.d with
        | lst ds =>
          simp only [hd] at p1
          rw [hd] at ho
          by_cases hc : ds.length < 100000
          · simp only [if_pos hc] at p1
            obtain ⟨xs, hH, hr⟩ := ho
            refine ⟨pa, xs, v, rfl, rfl, hH, sl100k (by rw [repL_len hr]; exact hc), ?_⟩
            exact p1 σ F1 _ (R1.put hs m e0 ⟨_, upd_same, repL_snoc hr x1⟩) (Same.refl F1)
          · simp only [if_neg hc] at p1
            exact p1.elim
        | _ =>
          simp only [hd] at p1
          exact p1.elim
    | _ =>
      simp only [hd0] at p
      exact p.elim
theorem ds_extend (hf : DE X W e f) (hN : X.N[i]? = some y := by rfl) (hv : Vis X.env.scope y := by first | exact Or.inl rfl | exact Or.inr (Or.inl rfl) | exact Or.inr (Or.inr rfl))
    (hyd : (y == ("__debug__" : Str)) = false := by decide) (hcd : (y == ("__classdict__" : Str)) = false := by decide)
    (hbase : attributeBase (.Name y q) "extend" X.env (eval (.Name y q) X.env) = eval (.Name y q) X.env := by rfl)
    (hfew : ((backTo pos' (starEach [e] X.env)).all (fun x => !x.1) && (backToKw pos' (keywordEach [] X.env)).all (fun x => x.1.isSome)
      && decide (([e] : List Expr).length + ([] : List Keyword).length + (if ([] : List Keyword).isEmpty then 0 else 1) < 30)) = true := by rfl)
    (hline : (apos.endLine == pos'.line) = true := by rfl) (hst : starEach [e] X.env = (false, eval e X.env) :: starEach [] X.env := by rfl)
    (hs : swapsWith (.Call (.Attribute (.Name y q) "extend" apos) [e] [] pos') none pos.line X.env = pure false := by rfl) :
    DS X W (.Expr (.Call (.Attribute (.Name y q) "extend" apos) [e] [] pos') pos) (sExtend i f) := by
  obtain ⟨t, hp, he⟩ := hf.ex
  refine ⟨_, ps_expr (pe_bm PySem.F.plainAttrs_list PySem.F.slot_list_extend PySem.F.type_list_extend mt_extend (pe_var hN hv hyd hcd) (pa_cons hp pa_nil hst) hbase hfew hline hst rfl) hs, fun B F H r σ Z R p => ?_⟩
  unfold sExtend at p
  rcases atMineS_cases r i (fun s0 => match s0.d with
    | .lst _ => sBind (f r) fun p => atMineS p.2 i fun s => match extD s.d p.1 with
      | some z => .nx (p.2.set i (some (s.put z)))
      | none => .bad
    | _ => .bad) with z | ⟨s0, hs0, m0, z⟩
  · rw [z] at p
    exact p.elim
  · rw [z] at p
    obtain ⟨pa, e0, ho, _⟩ := R.mine_at hs0 m0
    cases hd0 : s0.d with
    | lst ds0 =>
      simp only [hd0] at p
      rw [hd0] at ho
      obtain ⟨xs0, hH0, _⟩ := ho
      refine ⟨_, e0, .inl ⟨rfl, _, SqL.of hH0⟩, he.toS R p fun d r1 v F1 H1 R1 s1 x1 p1 => ?_⟩
      rcases atMineS_cases r1 i (fun s => match extD s.d d with
        | some z => .nx (r1.set i (some (s.put z)))
        | none => .bad) with z | ⟨s, hs, m, z⟩
      · simp only [z] at p1
        exact p1.elim
      · simp only [z] at p1
        obtain ⟨pa', e1, ho, hFp⟩ := R1.mine_at hs m
        rw [e0] at e1
        cases e1
        cases hd : s.d with
        | lst ds =>
          cases d with
          | lst es =>
            simp only [hd, extD] at p1
            rw [hd] at ho
            by_cases hc : ds.length + es.length < 100000
            · simp only [if_pos hc] at p1
              obtain ⟨xs, hH, hr⟩ := ho
              obtain ⟨b, zs, rfl, hFb, hrb⟩ := x1
              refine ⟨pa, b, xs, zs, rfl, rfl, hH, R1.fh _ _ hFb, Nat.le_of_lt (sl100k (by rw [repL_len hr, repL_len hrb]; exact hc)), ?_⟩
              exact p1 σ F1 _ (R1.put hs m e0 ⟨_, upd_same, repL_app hr hrb⟩) (Same.refl F1)
            · simp only [if_neg hc] at p1
              exact p1.elim
          | _ =>
            simp only [hd, extD] at p1
            exact p1.elim
        | _ =>
          simp only [hd, extD] at p1
          exact p1.elim
    | _ =>
      simp only [hd0] at p
      exact p.elim
/-! ### y[k] = e by a target (a list) -/
def ixD (n : Nat) (d : D) : Option Nat := match d with
  | .int k => ixN n k
  | _ => none
def gSetIx (i : Nat) (fi : En → Res (D × En)) : D → En → Res En := fun d r => if isMine r i = true then (fi r).bind fun p => atMine p.2 i fun s => match s.d with
  | .lst ds => (match ixD ds.length p.1 with
    | some j => .ok (p.2.set i (some (s.put (.lst (ds.set j d)))))
    | none => .bad)
  | _ => .bad else .bad
theorem dg_setix {o' : Expr} {vs : List Nat} (hf : DE X W o' f) (hN : X.N[i]? = some y := by rfl) (hv : Vis X.env.scope y := by first | exact Or.inl rfl | exact Or.inr (Or.inl rfl) | exact Or.inr (Or.inr rfl))
    (hyd : (y == ("__debug__" : Str)) = false := by decide) (hcd : (y == ("__classdict__" : Str)) = false := by decide)
    (ha : ∀ v, assign (.Subscript (.Name y q) o' pos) X.env v = (do
      let ov ← holding [v] (eval (.Name y q) X.env)
      let iv ← holding [v, ov] (eval o' X.env)
      standAt pos
      holding [v, ov, iv] (setItem ov iv v)
      release [v, ov, iv] []) := by intro _; rfl) : DG X W (.Subscript (.Name y q) o' pos) vs (gSetIx i f) := by
  obtain ⟨t, hp, he⟩ := hf.ex
  refine ⟨_, pg_sub (pe_var hN hv hyd hcd) hp set_list ha, fun B F H r σ d v Q R rp p => ?_⟩
  unfold gSetIx at p
  by_cases hm0 : isMine r i = true
  · rw [if_pos hm0] at p
    obtain ⟨s0, hs0, m0⟩ := isMine_ok hm0
    obtain ⟨pa, e0, _⟩ := R.mine_at hs0 m0
    refine ⟨_, e0, he B F H r σ _ R ?_⟩
    cases z : f r with
    | ok a =>
      obtain ⟨k, r1⟩ := a
      simp only [z, bind_ok] at p
      intro u F1 H1 R1 s1 x1
      rcases atMine_cases r1 i (fun s => match s.d with
        | .lst ds => (match ixD ds.length k with
          | some j => .ok (r1.set i (some (s.put (.lst (ds.set j d)))))
          | none => .bad)
        | _ => (.bad : Res En)) with z | ⟨s, hs, m, z⟩
      · rw [z] at p
        exact p.elim
      · rw [z] at p
        obtain ⟨pa', e1, ho, hFp⟩ := R1.mine_at hs m
        rw [e0] at e1
        cases e1
        cases hd : s.d with
        | lst ds =>
          simp only [hd] at p
          rw [hd] at ho
          obtain ⟨xs, hH, hr⟩ := ho
          cases k with
          | int k =>
            cases hj : ixN ds.length k with
            | some j =>
              simp only [ixD, hj] at p
              refine ⟨pa, xs, k, j, rfl, x1, hH, by rw [repL_len hr]; exact hj, ?_⟩
              exact p σ F1 _ (R1.put hs m e0 ⟨_, upd_same, repL_set (rep_mono s1 _ _ rp) j hr⟩) s1 Off.refl
            | none =>
              simp only [ixD, hj] at p
              exact p.elim
          | _ =>
            simp only [ixD] at p
            exact p.elim
        | _ =>
          simp only [hd] at p
          exact p.elim
    | er c fs r' =>
      simp only [z, bind_er] at p
      exact p
    | bad =>
      simp only [z, bind_bad] at p
      exact p.elim
  · rw [if_neg hm0] at p
    exact p.elim
end
end Dl

set_option Elab.async false
set_option linter.all false
set_option maxRecDepth 100000
set_option maxHeartbeats 4000000
namespace Dl
open PySem L2

/-! ### plain data -/
mutual
def toPy : D → PyData
  | .bl b => .bool b
  | .int i => .int i
  | .str x => .str x
  | .lst ds => .list (toPyL ds)
  | .tup ds => .tuple (toPyL ds)
  | _ => .none
def toPyL : List D → List PyData
  | [] => []
  | d :: ds => toPy d :: toPyL ds
end
mutual
def isData : D → Bool
  | .non => true
  | .bl _ => true
  | .int _ => true
  | .str _ => true
  | .lst ds => isDataL ds
  | .tup ds => isDataL ds
  | _ => false
def isDataL : List D → Bool
  | [] => true
  | d :: ds => isData d && isDataL ds
end
def okPy (d : D) : Bool := isData d && SeqAt.shaped (toPy d)
theorem toPyL_map : ∀ ds : List D, toPyL ds = ds.map toPy
  | [] => rfl
  | d :: ds => by rw [toPyL, toPyL_map ds, List.map_cons]
section
variable {K : PySem.W.Frag} {mg : Str → Option Value} {F H : Hp}
mutual
theorem rep_dp (e : Same F H) : ∀ (d : D) (v : V), isData d = true → rep K mg F d v → Dp K H v (toPy d)
  | .non, _, _, h => by
    cases h
    exact .non
  | .bl b, _, _, h => by
    cases h
    exact .bl b
  | .int b, _, _, h => by
    cases h
    exact .int b
  | .str b, _, _, h => by
    cases h
    exact .str b
  | .lst ds, _, i, ⟨a, xs, e1, hF, r⟩ => by
    subst e1
    rw [toPy]
    exact .lst (SqL.of (e _ _ hF)) (rep_dpL e ds xs i r)
  | .tup ds, _, i, ⟨a, xs, e1, hF, r⟩ => by
    subst e1
    rw [toPy]
    exact .tup (sqT_mono e hF) (rep_dpL e ds xs i r)
theorem rep_dpL (e : Same F H) : ∀ (ds : List D) (vs : List V), isDataL ds = true → repL K mg F ds vs → DpAll K H vs (toPyL ds)
  | [], _, _, h => by
    cases h
    exact .nil
  | d :: ds, _, i, ⟨w, ws, e1, h1, h2⟩ => by
    subst e1
    rw [isDataL, Bool.and_eq_true] at i
    rw [toPyL]
    exact .cons (rep_dp e d w i.1 h1) (rep_dpL e ds ws i.2 h2)
end
theorem vw_dp (e : Same F H) : ∀ (d : D) (v : V), isData d = true → vw K mg F H d v → Dp K H v (toPy d)
  | .non, _, _, h => by
    cases h
    exact .non
  | .bl b, _, _, h => by
    cases h
    exact .bl b
  | .int b, _, _, h => by
    cases h
    exact .int b
  | .str b, _, _, h => by
    cases h
    exact .str b
  | .lst ds, _, i, ⟨a, xs, e1, hF, r⟩ => by
    subst e1
    rw [toPy]
    exact .lst (SqL.of hF) (rep_dpL e ds xs i r)
  | .tup ds, _, i, ⟨a, xs, e1, hF, r⟩ => by
    subst e1
    rw [toPy]
    exact .tup hF (rep_dpL e ds xs i r)
end

/-! ### operations on data -/
def addI : D → D → Option D
  | .int a, .int b => some (.int (a + b))
  | _, _ => none
def subI : D → D → Option D
  | .int a, .int b => some (.int (a - b))
  | _, _ => none
def mulI : D → D → Option D
  | .int a, .int b => if (-(2 ^ 64) < a ∧ a < 2 ^ 64) ∨ (-(2 ^ 64) < b ∧ b < 2 ^ 64) then some (.int (a * b)) else none
  | _, _ => none
def modI : D → D → Option D
  | .int a, .int b => if 0 < b then some (.int (a % b)) else none
  | _, _ => none
def fdivI : D → D → Option D
  | .int a, .int b => if 0 < b ∧ b < 1073741824 then some (.int (a / b)) else none
  | _, _ => none
def powI : D → D → Option D
  | .int a, .int b => if 0 ≤ b ∧ b ≤ 1000000 ∧ a.natAbs < 2 ^ 64 then some (.int (a ^ b.toNat)) else none
  | _, _ => none
def negI : D → Option D
  | .int a => some (.int (-a))
  | _ => none
def ltI : D → D → Option D
  | .int a, .int b => some (.bl (decide (a < b)))
  | _, _ => none
def leI : D → D → Option D
  | .int a, .int b => some (.bl (decide (a ≤ b)))
  | _, _ => none
def gtI : D → D → Option D
  | .int a, .int b => some (.bl (decide (b < a)))
  | _, _ => none
def geI : D → D → Option D
  | .int a, .int b => some (.bl (decide (b ≤ a)))
  | _, _ => none
/-- == of data (texts apart: any texts) -/
def eqD : D → D → Option D
  | .str a, .str b => some (.bl (decide (a = b)))
  | x, y => if okPy x = true ∧ okPy y = true then some (.bl (PyData.eqv (toPy x) (toPy y))) else none
def neD : D → D → Option D
  | .str a, .str b => some (.bl (!decide (a = b)))
  | x, y => if okPy x = true ∧ okPy y = true then some (.bl (!PyData.eqv (toPy x) (toPy y))) else none
def isN : D → D → Option D
  | .non, .non => some (.bl true)
  | .bl _, .non => some (.bl false)
  | .int _, .non => some (.bl false)
  | .str _, .non => some (.bl false)
  | .lst _, .non => some (.bl false)
  | .tup _, .non => some (.bl false)
  | .dk _, .non => some (.bl false)
  | .dt _, .non => some (.bl false)
  | .ins _ _, .non => some (.bl false)
  | _, _ => none
def notN (x y : D) : Option D := match isN x y with
  | some (.bl b) => some (.bl (!b))
  | _ => none
def catL : D → D → Option D
  | .lst a, .lst b => if a.length + b.length ≤ 100000 then some (.lst (a ++ b)) else none
  | _, _ => none
def addS : D → D → Option D
  | .str a, .str b => if a.length + b.length ≤ 100000 then some (.str (a ++ b)) else none
  | _, _ => none
def ixG : D → D → Option D
  | .lst ds, .int i => atI ds i
  | .tup ds, .int i => atI ds i
  | .str z, .int i => if z.length ≤ 100000 then (atI z.cps.toList i).map fun c => .str ⟨#[c]⟩ else none
  | .scr ns, .int i => (atI ns i).map .int
  | _, _ => none
def inLst : D → D → Option D
  | x, .lst ds => if okPy x = true ∧ okPy (.lst ds) = true then some (.bl ((toPyL ds).any fun z => PyData.eqv z (toPy x))) else none
  | _, _ => none
def ninLst : D → D → Option D
  | x, .lst ds => if okPy x = true ∧ okPy (.lst ds) = true then some (.bl (!(toPyL ds).any fun z => PyData.eqv z (toPy x))) else none
  | _, _ => none
def inStr : D → D → Option D
  | .str i, .str j => some (.bl (!(Builtin.Str.occurrences j i 0 j.length 1).isEmpty))
  | _, _ => none
def lenD : D → Option D
  | .lst ds => some (.int ds.length)
  | .tup ds => some (.int ds.length)
  | .str z => if z.length ≤ 100000 then some (.int z.length) else none
  | .scr ns => some (.int ns.length)
  | _ => none
def lenK : D → Option D
  | .dk kvs => some (.int kvs.length)
  | _ => none
section
variable {X : Cx}
theorem opv_ii {C : Int → Int → Prop} [∀ a b, Decidable (C a b)] {g : Int → Int → D} {v : Int → Int → V} (hr : ∀ F a b, rep X.K X.mg F (g a b) (v a b)) {f : D → D → Option D} (hf : ∀ x y z, f x y = some z → ∃ a b, x = .int a ∧ y = .int b ∧ C a b ∧ z = g a b) : OpV X (L2.rI C v) f := by
  intro F H x y d e z Q s h1 h2 h3 k
  obtain ⟨a, b, rfl, rfl, hc, rfl⟩ := hf d e z h3
  exact ⟨a, b, h1, h2, hc, k _ (hr F a b)⟩
theorem opv_i0 {g : Int → Int → D} {v : Int → Int → V} (hr : ∀ F a b, rep X.K X.mg F (g a b) (v a b)) {f : D → D → Option D} (hf : ∀ x y z, f x y = some z → ∃ a b, x = .int a ∧ y = .int b ∧ z = g a b) : OpV X (rI0 v) f := by
  intro F H x y d e z Q s h1 h2 h3 k
  obtain ⟨a, b, rfl, rfl, rfl⟩ := hf d e z h3
  exact ⟨a, b, h1, h2, k _ (hr F a b)⟩
theorem ov_add : OpV X (rI0 fun i j => .int (i + j)) addI := opv_i0 (g := fun a b => .int (a + b)) (fun _ _ _ => rfl) fun x y z h => by
  unfold addI at h
  split at h
  · cases h
    exact ⟨_, _, rfl, rfl, rfl⟩
  · cases h
theorem ov_sub : OpV X (rI0 fun i j => .int (i - j)) subI := opv_i0 (g := fun a b => .int (a - b)) (fun _ _ _ => rfl) fun x y z h => by
  unfold subI at h
  split at h
  · cases h
    exact ⟨_, _, rfl, rfl, rfl⟩
  · cases h
theorem ov_mul : OpV X (L2.rI CMul fun i j => .int (i * j)) mulI := by
  intro F H x y d e z Q s h1 h2 h3 k
  unfold mulI at h3
  split at h3
  · rename_i a b
    split at h3
    · rename_i hc
      cases h3
      exact ⟨a, b, h1, h2, hc, k _ rfl⟩
    · cases h3
  · cases h3
theorem ov_mod : OpV X (L2.rI (fun _ j => 0 < j) fun i j => .int (i % j)) modI := by
  intro F H x y d e z Q s h1 h2 h3 k
  unfold modI at h3
  split at h3
  · rename_i a b
    split at h3
    · rename_i hc
      cases h3
      exact ⟨a, b, h1, h2, hc, k _ rfl⟩
    · cases h3
  · cases h3
theorem ov_fdiv : OpV X (L2.rI CDiv fun i j => .int (i / j)) fdivI := by
  intro F H x y d e z Q s h1 h2 h3 k
  unfold fdivI at h3
  split at h3
  · rename_i a b
    split at h3
    · rename_i hc
      cases h3
      exact ⟨a, b, h1, h2, hc, k _ rfl⟩
    · cases h3
  · cases h3
theorem ov_pow : OpV X (L2.rI CPow fun i j => .int (i ^ j.toNat)) powI := by
  intro F H x y d e z Q s h1 h2 h3 k
  unfold powI at h3
  split at h3
  · rename_i a b
    split at h3
    · rename_i hc
      cases h3
      exact ⟨a, b, h1, h2, hc, k _ rfl⟩
    · cases h3
  · cases h3
theorem uv_neg : UnV X (rU fun i => .int (-i)) negI := by
  intro F H v d z Q s h1 h3 k
  unfold negI at h3
  split at h3
  · cases h3
    exact ⟨_, h1, k _ rfl⟩
  · cases h3
theorem ov_lt : OpV X (rI0 fun i j => .bl (decide (i < j))) ltI := opv_i0 (g := fun a b => .bl (decide (a < b))) (fun _ _ _ => rfl) fun x y z h => by
  unfold ltI at h
  split at h
  · cases h
    exact ⟨_, _, rfl, rfl, rfl⟩
  · cases h
theorem ov_le : OpV X (rI0 fun i j => .bl (decide (i ≤ j))) leI := opv_i0 (g := fun a b => .bl (decide (a ≤ b))) (fun _ _ _ => rfl) fun x y z h => by
  unfold leI at h
  split at h
  · cases h
    exact ⟨_, _, rfl, rfl, rfl⟩
  · cases h
theorem ov_gt : OpV X (rI0 fun i j => .bl (decide (j < i))) gtI := opv_i0 (g := fun a b => .bl (decide (b < a))) (fun _ _ _ => rfl) fun x y z h => by
  unfold gtI at h
  split at h
  · cases h
    exact ⟨_, _, rfl, rfl, rfl⟩
  · cases h
theorem ov_ge : OpV X (rI0 fun i j => .bl (decide (j ≤ i))) geI := opv_i0 (g := fun a b => .bl (decide (b ≤ a))) (fun _ _ _ => rfl) fun x y z h => by
  unfold geI at h
  split at h
  · cases h
    exact ⟨_, _, rfl, rfl, rfl⟩
  · cases h
theorem OpV.or {rr rr' : R2} {f g : D → D → Option D} (h : OpV X rr f) (h' : OpV X rr' g) : OpV X (fun x y H Q => rr x y H Q ∨ rr' x y H Q) (fun x y => (f x y).or (g x y)) := by
  intro F H x y d e z Q s h1 h2 h3 k
  cases q : f d e with
  | some z' =>
    simp only [q, Option.some_or] at h3
    cases h3
    exact .inl (h F H x y d e z Q s h1 h2 q k)
  | none =>
    simp only [q, Option.none_or] at h3
    exact .inr (h' F H x y d e z Q s h1 h2 h3 k)
theorem okPy_parts {d : D} (h : okPy d = true) : isData d = true ∧ SeqAt.shaped (toPy d) = true := Bool.and_eq_true_iff.mp h
theorem ov_eq : OpV X (fun x y H Q => rEq x y H Q ∨ rEqD X.K x y H Q) eqD := by
  intro F H x y d e z Q s h1 h2 h3 k
  unfold eqD at h3
  split at h3
  · rename_i a b
    cases h3
    cases h1
    cases h2
    refine .inl ⟨rfl, ?_⟩
    have z : decide (V.str a = V.str b) = decide (a = b) := by
      by_cases q : a = b
      · rw [q]
        simp
      · rw [decide_eq_false q, decide_eq_false fun w => q (by cases w; rfl)]
    rw [z]
    exact k _ rfl
  · split at h3
    · rename_i hc
      cases h3
      obtain ⟨a1, a2⟩ := okPy_parts hc.1
      obtain ⟨b1, b2⟩ := okPy_parts hc.2
      exact .inr ⟨_, _, vw_dp s d x a1 h1, vw_dp s e y b1 h2, a2, b2, k _ rfl⟩
    · cases h3
theorem ov_ne : OpV X (fun x y H Q => rNe x y H Q ∨ rNeD X.K x y H Q) neD := by
  intro F H x y d e z Q s h1 h2 h3 k
  unfold neD at h3
  split at h3
  · rename_i a b
    cases h3
    cases h1
    cases h2
    refine .inl ⟨rfl, ?_⟩
    have z : decide (V.str a = V.str b) = decide (a = b) := by
      by_cases q : a = b
      · rw [q]
        simp
      · rw [decide_eq_false q, decide_eq_false fun w => q (by cases w; rfl)]
    rw [z]
    exact k _ rfl
  · split at h3
    · rename_i hc
      cases h3
      obtain ⟨a1, a2⟩ := okPy_parts hc.1
      obtain ⟨b1, b2⟩ := okPy_parts hc.2
      exact .inr ⟨_, _, vw_dp s d x a1 h1, vw_dp s e y b1 h2, a2, b2, k _ rfl⟩
    · cases h3
theorem op_eqA (hu : X.A.units + 64 < cLine) : OpR X (compareOp .Eq) (fun x y H Q => rEq x y H Q ∨ rEqD X.K x y H Q) := op_eq.or (op_eqD hu)
theorem op_neA (hu : X.A.units + 64 < cLine) : OpR X (compareOp .NotEq) (fun x y H Q => rNe x y H Q ∨ rNeD X.K x y H Q) := op_ne.or (op_neD hu)
theorem isN_ref {x y : D} {z : D} (h : isN x y = some z) : y = .non ∧ ((x = .non ∧ z = .bl true) ∨ (z = .bl false ∧ ∀ (F H : Hp) (v : V), vw X.K X.mg F H x v → v ≠ .non)) := by
  cases x <;> cases y <;> simp only [isN] at h <;> (first | cases h | skip) <;> refine ⟨rfl, ?_⟩
  · exact .inl ⟨rfl, rfl⟩
  all_goals refine .inr ⟨rfl, fun F H v hv => ?_⟩
  · rw [show v = _ from hv]; exact fun z => nomatch z
  · rw [show v = _ from hv]; exact fun z => nomatch z
  · rw [show v = _ from hv]; exact fun z => nomatch z
  · obtain ⟨_, _, e, _⟩ := hv; rw [e]; exact fun z => nomatch z
  · obtain ⟨_, _, e, _⟩ := hv; rw [e]; exact fun z => nomatch z
  · obtain ⟨_, _, e, _⟩ := hv; rw [e]; exact fun z => nomatch z
  · obtain ⟨_, _, e, _⟩ := hv; rw [e]; exact fun z => nomatch z
  · obtain ⟨_, _, _, _, e, _⟩ := hv; rw [e]; exact fun z => nomatch z
theorem ov_isN : OpV X (fun x y H Q => y = .non ∧ Q (.bl (decide (x = .non))) H) isN := by
  intro F H x y d e z Q s h1 h2 h3 k
  obtain ⟨rfl, ⟨rfl, rfl⟩ | ⟨rfl, hn⟩⟩ := isN_ref (X := X) h3
  · cases h1
    exact ⟨h2, k _ rfl⟩
  · refine ⟨h2, ?_⟩
    rw [decide_eq_false (hn F H x h1)]
    exact k _ rfl
theorem ov_notN : OpV X (fun x y H Q => y = .non ∧ Q (.bl (!decide (x = .non))) H) notN := by
  intro F H x y d e z Q s h1 h2 h3 k
  unfold notN at h3
  split at h3
  · rename_i b hb
    cases h3
    obtain ⟨rfl, ⟨rfl, w⟩ | ⟨w, hn⟩⟩ := isN_ref (X := X) hb
    · cases w
      cases h1
      exact ⟨h2, k _ rfl⟩
    · cases w
      refine ⟨h2, ?_⟩
      rw [decide_eq_false (hn F H x h1)]
      exact k _ rfl
  · cases h3
theorem sl100 {n : Nat} (h : n ≤ 100000) : n ≤ sizeLine := Nat.le_trans h (by decide)
theorem on_cat : OpN X rCat catL := by
  intro F H x y d e z Q s h1 h2 h3 k
  unfold catL at h3
  split at h3
  · split at h3
    · rename_i hc
      cases h3
      obtain ⟨a, xs, rfl, ha, ra⟩ := h1
      obtain ⟨b, ys, rfl, hb, rb⟩ := h2
      exact ⟨a, b, xs, ys, rfl, rfl, ha, hb, sl100 (by rw [repL_len ra, repL_len rb]; exact hc), fun p hp => k p _ hp ⟨_, upd_same, repL_app ra rb⟩⟩
    · cases h3
  · cases h3
theorem ov_addS : OpV X (fun x y H Q => ∃ i j, x = .str i ∧ y = .str j ∧ i.length + j.length ≤ sizeLine ∧ Q (.str (i ++ j)) H) addS := by
  intro F H x y d e z Q s h1 h2 h3 k
  unfold addS at h3
  split at h3
  · split at h3
    · rename_i hc
      cases h3
      exact ⟨_, _, h1, h2, sl100 hc, k _ rfl⟩
    · cases h3
  · cases h3
theorem ixN_lt {n : Nat} {i : Int} {j : Nat} (h : ixN n i = some j) : j < n := (ixN_seq h).2.1
theorem atI_rep {F : Hp} {ds : List D} {vs : List V} {i : Int} {d : D} (h : repL X.K X.mg F ds vs) (e : atI ds i = some d) : ∃ v, atI vs i = some v ∧ rep X.K X.mg F d v := by
  unfold atI at e ⊢
  rw [repL_len h]
  cases q : ixN ds.length i with
  | none =>
    rw [q] at e
    cases e
  | some j =>
    rw [q] at e
    exact repL_get h e
theorem atI_map {α β : Type} {xs : List α} {f : α → β} {i : Int} : atI (xs.map f) i = (atI xs i).map f := by
  unfold atI
  rw [List.length_map]
  cases ixN xs.length i with
  | none => rfl
  | some j => simp
theorem ov_ix : OpV X (rIx X.K) ixG := by
  intro F H x y d e z Q s h1 h2 h3 k
  unfold ixG at h3
  split at h3
  · obtain ⟨a, xs, rfl, ha, ra⟩ := h1
    obtain ⟨v, e1, e2⟩ := atI_rep ra h3
    exact .inl ⟨a, xs, _, v, rfl, h2, SqL.of ha, e1, k v e2⟩
  · obtain ⟨a, xs, rfl, ha, ra⟩ := h1
    obtain ⟨v, e1, e2⟩ := atI_rep ra h3
    exact .inr (.inl ⟨a, xs, _, v, rfl, h2, ha, e1, k v e2⟩)
  · split at h3
    · rename_i hc
      cases q : atI (_ : List Nat) _ with
      | none =>
        rw [q] at h3
        cases h3
      | some c =>
        rw [q] at h3
        cases h3
        exact .inr (.inr ⟨_, _, c, h1, h2, sl100 hc, q, k _ rfl⟩)
    · cases h3
  · rename_i ns i
    obtain ⟨a, rfl, ha⟩ := h1
    cases q : atI ns i with
    | none =>
      rw [q] at h3
      cases h3
    | some n =>
      rw [q] at h3
      cases h3
      exact .inl ⟨a, _, i, .int n, rfl, h2, ha, by rw [atI_map, q]; rfl, k _ rfl⟩
  · cases h3
theorem ov_inLst : OpV X (rInD X.K) inLst := by
  intro F H x y d e z Q s h1 h2 h3 k
  unfold inLst at h3
  split at h3
  · split at h3
    · rename_i hc
      cases h3
      obtain ⟨a1, a2⟩ := okPy_parts hc.1
      obtain ⟨b1, b2⟩ := okPy_parts hc.2
      have z := vw_dp s _ y b1 h2
      rw [toPy] at z b2
      exact ⟨_, _, vw_dp s d x a1 h1, z, a2, b2, k _ rfl⟩
    · cases h3
  · cases h3
theorem ov_ninLst : OpV X (rNotInD X.K) ninLst := by
  intro F H x y d e z Q s h1 h2 h3 k
  unfold ninLst at h3
  split at h3
  · split at h3
    · rename_i hc
      cases h3
      obtain ⟨a1, a2⟩ := okPy_parts hc.1
      obtain ⟨b1, b2⟩ := okPy_parts hc.2
      have z := vw_dp s _ y b1 h2
      rw [toPy] at z b2
      exact ⟨_, _, vw_dp s d x a1 h1, z, a2, b2, k _ rfl⟩
    · cases h3
  · cases h3
theorem ov_inStr : OpV X (fun x y H Q => ∃ i j, x = .str i ∧ y = .str j ∧ Q (.bl (!(Builtin.Str.occurrences j i 0 j.length 1).isEmpty)) H) inStr := by
  intro F H x y d e z Q s h1 h2 h3 k
  unfold inStr at h3
  split at h3
  · cases h3
    exact ⟨_, _, h1, h2, k _ rfl⟩
  · cases h3
theorem uv_len : UnV X (fun v H Q => ∃ x n, [v] = [x] ∧ LenV X.K x H n ∧ Q (.int n) H) lenD := by
  intro F H v d z Q s h1 h3 k
  unfold lenD at h3
  split at h3
  · cases h3
    obtain ⟨a, xs, rfl, ha, ra⟩ := h1
    exact ⟨_, _, rfl, .inl ⟨xs, SqL.of ha, (repL_len ra).symm⟩, k _ rfl⟩
  · cases h3
    obtain ⟨a, xs, rfl, ha, ra⟩ := h1
    exact ⟨_, _, rfl, .inr ⟨xs, ha, (repL_len ra).symm⟩, k _ rfl⟩
  · split at h3
    · rename_i hc
      cases h3
      cases h1
      exact ⟨_, _, rfl, ⟨sl100 hc, rfl⟩, k _ rfl⟩
    · cases h3
  · cases h3
    obtain ⟨a, rfl, ha⟩ := h1
    exact ⟨_, _, rfl, .inl ⟨_, ha, by rw [List.length_map]⟩, k _ rfl⟩
  · cases h3
end
end Dl

set_option Elab.async false
set_option linter.all false
set_option maxRecDepth 100000
set_option maxHeartbeats 4000000
namespace Dl
open PySem L2

/-! ### built-ins by name -/
section
variable {X : Cx} {W : WX} {e e2 : Expr} {x : Str} {p pos : Pos} {fa fb : En → Res (BV × En)} {id T : String} {rr : List V → Hp → VK → Prop} {g : D → Option D} {g2 : D → D → Option D}
theorem de_b1 (hc : CallR X (.builtin id) rr) (hv : UnV X (fun v H Q => rr [v] H Q) g) (hg : Gl X x) (hm : X.mg x = none) (hb : bootBuiltins x = some (.builtin id)) (ha : DB X W e fa) (hst : starEach [e] X.env = (false, eval e X.env) :: starEach [] X.env := by rfl)
    (hn : x ≠ "__name__" := by decide) (hdb : (x == ("__debug__" : Str)) = false := by decide) : DE X W (.Call (.Name x p) [e] [] pos) (eUn g fa) := by
  obtain ⟨t, hp, he⟩ := ha.ex
  exact ⟨_, pe_callB hc hg hm hb (pa_cons hp pa_nil hst) hn hdb hst rfl, un_ent (rr := fun v H Q => rr [v] H Q) he (unV_hr hv)⟩
theorem dn_b1 (hc : CallR X (.builtin id) rr) (hv : UnN X (fun v H Q => rr [v] H Q) g) (hg : Gl X x) (hm : X.mg x = none) (hb : bootBuiltins x = some (.builtin id)) (ha : DB X W e fa) (hst : starEach [e] X.env = (false, eval e X.env) :: starEach [] X.env := by rfl)
    (hn : x ≠ "__name__" := by decide) (hdb : (x == ("__debug__" : Str)) = false := by decide) : DN X W (.Call (.Name x p) [e] [] pos) (eUn g fa) := by
  obtain ⟨t, hp, he⟩ := ha.ex
  exact ⟨_, pe_callB hc hg hm hb (pa_cons hp pa_nil hst) hn hdb hst rfl, un_ent (rr := fun v H Q => rr [v] H Q) he (unN_hr hv)⟩
theorem de_t1 (hc : CallR X (.type T) rr) (hv : UnV X (fun v H Q => rr [v] H Q) g) (hg : Gl X x) (hm : X.mg x = none) (hb : bootBuiltins x = some (.type T)) (ha : DB X W e fa) (hst : starEach [e] X.env = (false, eval e X.env) :: starEach [] X.env := by rfl)
    (hn : x ≠ "__name__" := by decide) (hdb : (x == ("__debug__" : Str)) = false := by decide) : DE X W (.Call (.Name x p) [e] [] pos) (eUn g fa) := by
  obtain ⟨t, hp, he⟩ := ha.ex
  exact ⟨_, pe_callTy hc hg hm hb (pa_cons hp pa_nil hst) hn hdb hst rfl, un_ent (rr := fun v H Q => rr [v] H Q) he (unV_hr hv)⟩
theorem dn_t1 (hc : CallR X (.type T) rr) (hv : UnN X (fun v H Q => rr [v] H Q) g) (hg : Gl X x) (hm : X.mg x = none) (hb : bootBuiltins x = some (.type T)) (ha : DB X W e fa) (hst : starEach [e] X.env = (false, eval e X.env) :: starEach [] X.env := by rfl)
    (hn : x ≠ "__name__" := by decide) (hdb : (x == ("__debug__" : Str)) = false := by decide) : DN X W (.Call (.Name x p) [e] [] pos) (eUn g fa) := by
  obtain ⟨t, hp, he⟩ := ha.ex
  exact ⟨_, pe_callTy hc hg hm hb (pa_cons hp pa_nil hst) hn hdb hst rfl, un_ent (rr := fun v H Q => rr [v] H Q) he (unN_hr hv)⟩
theorem de_b2 (hc : CallR X (.builtin id) rr) (hv : OpV X (fun v u H Q => rr [v, u] H Q) g2) (hg : Gl X x) (hm : X.mg x = none) (hb : bootBuiltins x = some (.builtin id)) (ha : DB X W e fa) (ha2 : DB X W e2 fb)
    (hst : starEach [e, e2] X.env = (false, eval e X.env) :: starEach [e2] X.env := by rfl) (hst2 : starEach [e2] X.env = (false, eval e2 X.env) :: starEach [] X.env := by rfl)
    (hn : x ≠ "__name__" := by decide) (hdb : (x == ("__debug__" : Str)) = false := by decide) : DE X W (.Call (.Name x p) [e, e2] [] pos) (eBin g2 fa fb) := by
  obtain ⟨t, hp, he⟩ := ha.ex
  obtain ⟨t2, hp2, he2⟩ := ha2.ex
  exact ⟨_, pe_callB hc hg hm hb (pa_cons hp (pa_cons hp2 pa_nil hst2) hst) hn hdb hst (by rw [hst2]; rfl), bin_ent (rr := fun v u H Q => rr [v, u] H Q) he he2 (opV_hr hv)⟩
end

/-! ### the built-ins' values -/
def blsOf : List D → Option (List Bool)
  | [] => some []
  | .bl b :: ds => (blsOf ds).map (b :: ·)
  | _ => none
def intsOf : List D → Option (List Int)
  | [] => some []
  | .int b :: ds => (intsOf ds).map (b :: ·)
  | _ => none
def allD : D → Option D
  | .lst ds => (blsOf ds).map fun bs => .bl (bs.all id)
  | _ => none
def anyD : D → Option D
  | .lst ds => (blsOf ds).map fun bs => .bl (bs.any id)
  | _ => none
def sumD : D → Option D
  | .lst ds => (intsOf ds).map fun bs => .int bs.sum
  | _ => none
def absD : D → Option D
  | .int i => some (.int (if i < 0 then -i else i))
  | _ => none
def max2D : D → D → Option D
  | .int i, .int j => some (.int (if j > i then j else i))
  | _, _ => none
def min2D : D → D → Option D
  | .int i, .int j => some (.int (if j < i then j else i))
  | _, _ => none
def intD : D → Option D
  | .int i => some (.int i)
  | .bl b => some (.int (if b then 1 else 0))
  | _ => none
def listD : D → Option D
  | .lst ds => some (.lst ds)
  | .tup ds => some (.lst ds)
  | _ => none
def dictD : D → Option D
  | .dk kvs => some (.dk kvs)
  | _ => none
def allAlikeB (ds : List PyData) : Bool := ds.all fun d => ds.all fun d' => PySem.W.alike d d'
def sortableB (ds : List PyData) : Bool := (ds.all fun d => match d with
  | .tuple (_ :: _) => true
  | _ => false) || ds.all fun d => match d with
  | .none => false
  | .tuple _ => false
  | _ => true
def okPyL (ds : List D) : Bool := ds.all okPy
def sortedD : D → Option D
  | .lst ds => if okPyL ds = true ∧ allAlikeB (ds.map toPy) = true ∧ sortableB (ds.map toPy) = true ∧ ds.length ≤ 100000 then some (.lst (ds.mergeSort (PySem.W.dataLe false toPy))) else none
  | _ => none
theorem blsOf_map {K : PySem.W.Frag} {mg : Str → Option Value} {F : Hp} : ∀ {ds : List D} {vs : List V} {bs : List Bool}, repL K mg F ds vs → blsOf ds = some bs → vs = bs.map V.bl
  | [], _, _, h, e => by
    cases h
    cases e
    rfl
  | d :: ds, _, bs, h, e => by
    obtain ⟨w, ws, rfl, h1, h2⟩ := h
    cases d with
    | bl b =>
      unfold blsOf at e
      cases q : blsOf ds with
      | none =>
        rw [q] at e
        cases e
      | some cs =>
        rw [q] at e
        cases e
        rw [List.map_cons, blsOf_map h2 q, show w = .bl b from h1]
    | _ => cases e
theorem intsOf_map {K : PySem.W.Frag} {mg : Str → Option Value} {F : Hp} : ∀ {ds : List D} {vs : List V} {bs : List Int}, repL K mg F ds vs → intsOf ds = some bs → vs = bs.map V.int
  | [], _, _, h, e => by
    cases h
    cases e
    rfl
  | d :: ds, _, bs, h, e => by
    obtain ⟨w, ws, rfl, h1, h2⟩ := h
    cases d with
    | int b =>
      unfold intsOf at e
      cases q : intsOf ds with
      | none =>
        rw [q] at e
        cases e
      | some cs =>
        rw [q] at e
        cases e
        rw [List.map_cons, intsOf_map h2 q, show w = .int b from h1]
    | _ => cases e
section
variable {X : Cx}
theorem uv_all : UnV X (fun v H Q => rAll X.K [v] H Q) allD := by
  intro F H v d z Q s h1 h3 k
  unfold allD at h3
  split at h3
  · rename_i ds
    obtain ⟨a, xs, rfl, ha, ra⟩ := h1
    cases q : blsOf ds with
    | none =>
      rw [q] at h3
      cases h3
    | some bs =>
      rw [q] at h3
      cases h3
      exact ⟨a, bs, rfl, SqL.of (by rw [← blsOf_map ra q]; exact ha), k _ rfl⟩
  · cases h3
theorem uv_any : UnV X (fun v H Q => rAny X.K [v] H Q) anyD := by
  intro F H v d z Q s h1 h3 k
  unfold anyD at h3
  split at h3
  · rename_i ds
    obtain ⟨a, xs, rfl, ha, ra⟩ := h1
    cases q : blsOf ds with
    | none =>
      rw [q] at h3
      cases h3
    | some bs =>
      rw [q] at h3
      cases h3
      exact ⟨a, bs, rfl, SqL.of (by rw [← blsOf_map ra q]; exact ha), k _ rfl⟩
  · cases h3
theorem uv_sum : UnV X (fun v H Q => rSum X.K [v] H Q) sumD := by
  intro F H v d z Q s h1 h3 k
  unfold sumD at h3
  split at h3
  · rename_i ds
    obtain ⟨a, xs, rfl, ha, ra⟩ := h1
    cases q : intsOf ds with
    | none =>
      rw [q] at h3
      cases h3
    | some bs =>
      rw [q] at h3
      cases h3
      exact ⟨a, bs, rfl, SqL.of (by rw [← intsOf_map ra q]; exact ha), k _ rfl⟩
  · cases h3
theorem uv_abs : UnV X (fun v H Q => ∃ i, [v] = [.int i] ∧ Q (.int (if i < 0 then -i else i)) H) absD := by
  intro F H v d z Q s h1 h3 k
  unfold absD at h3
  split at h3
  · cases h3
    cases h1
    exact ⟨_, rfl, k _ rfl⟩
  · cases h3
theorem ov_max2 : OpV X (fun v u H Q => ∃ i j, [v, u] = [.int i, .int j] ∧ Q (.int (if j > i then j else i)) H) max2D := by
  intro F H x y d e z Q s h1 h2 h3 k
  unfold max2D at h3
  split at h3
  · cases h3
    cases h1
    cases h2
    exact ⟨_, _, rfl, k _ rfl⟩
  · cases h3
theorem ov_min2 : OpV X (fun v u H Q => ∃ i j, [v, u] = [.int i, .int j] ∧ Q (.int (if j < i then j else i)) H) min2D := by
  intro F H x y d e z Q s h1 h2 h3 k
  unfold min2D at h3
  split at h3
  · cases h3
    cases h1
    cases h2
    exact ⟨_, _, rfl, k _ rfl⟩
  · cases h3
theorem uv_int : UnV X (fun v H Q => (∃ i, [v] = [.int i] ∧ Q (.int i) H) ∨ ∃ k, [v] = [.bl k] ∧ Q (.int (if k then 1 else 0)) H) intD := by
  intro F H v d z Q s h1 h3 k
  unfold intD at h3
  split at h3
  · cases h3
    cases h1
    exact .inl ⟨_, rfl, k _ rfl⟩
  · cases h3
    cases h1
    exact .inr ⟨_, rfl, k _ rfl⟩
  · cases h3
theorem un_list : UnN X (fun v H Q => ∃ p ys, [v] = [.ref p] ∧ (SqL X.K H p ys ∨ SqT X.K H p ys) ∧ ∀ l, H l = none → Q (.ref l) (upd H l (.lst ys))) listD := by
  intro F H v d z Q s h1 h3 k
  unfold listD at h3
  split at h3
  · cases h3
    obtain ⟨a, xs, rfl, ha, ra⟩ := h1
    exact ⟨a, xs, rfl, .inl (SqL.of ha), fun l hl => k l _ hl ⟨xs, upd_same, ra⟩⟩
  · cases h3
    obtain ⟨a, xs, rfl, ha, ra⟩ := h1
    exact ⟨a, xs, rfl, .inr ha, fun l hl => k l _ hl ⟨xs, upd_same, ra⟩⟩
  · cases h3
theorem call_dictC : CallR X (.type "dict") (fun vs H Q => ∃ a kvs, vs = [.ref a] ∧ Rd H a (.dK kvs) ∧ ∀ p, H p = none → Q (.ref p) (upd H p (.dK kvs))) := by
  intro pins s σ H vs us Q I r h
  obtain ⟨a, kvs, rfl, hr, q⟩ := h
  rw [Vals.ref1 r]
  exact d_copyOf I hr fun p s' hp I' => ⟨.ref p, _, I', rfl, q p hp⟩
theorem un_dictC : UnN X (fun v H Q => ∃ a kvs, [v] = [.ref a] ∧ Rd H a (.dK kvs) ∧ ∀ p, H p = none → Q (.ref p) (upd H p (.dK kvs))) dictD := by
  intro F H v d z Q s h1 h3 k
  unfold dictD at h3
  split at h3
  · cases h3
    obtain ⟨a, ws, rfl, ha, ra⟩ := h1
    exact ⟨a, ws, rfl, ha, fun l hl => k l _ hl ⟨ws, upd_same, ra⟩⟩
  · cases h3
theorem call_lenK : CallR X (.builtin "len") (fun xs H Q => ∃ a kvs, xs = [.ref a] ∧ Rd H a (.dK kvs) ∧ Q (.int kvs.length) H) := by
  intro pins s σ H vs us Q I r h
  obtain ⟨a, kvs, rfl, hr, q⟩ := h
  rw [Vals.ref1 r]
  exact d_len I hr fun t s' I' => ⟨.int _, H, I', ⟨t, rfl⟩, q⟩
theorem repK_len {K : PySem.W.Frag} {mg : Str → Option Value} {F : Hp} : ∀ {ds : List (Key × D)} {vs : List (Key × V)}, repK K mg F ds vs → vs.length = ds.length
  | [], _, h => by
    cases h
    rfl
  | (k, d) :: ds, _, h => by
    obtain ⟨w, ws, rfl, _, h⟩ := h
    simp [repK_len h]
theorem uv_lenK : UnV X (fun v H Q => ∃ a kvs, [v] = [.ref a] ∧ Rd H a (.dK kvs) ∧ Q (.int kvs.length) H) lenK := by
  intro F H v d z Q s h1 h3 k
  unfold lenK at h3
  split at h3
  · cases h3
    obtain ⟨a, ws, rfl, ha, ra⟩ := h1
    exact ⟨a, ws, rfl, ha, k _ (by rw [repK_len ra]; rfl)⟩
  · cases h3
theorem allAlikeB_ok {ds : List PyData} (h : allAlikeB ds = true) : PySem.W.AllAlike ds := fun d hd d' hd' => List.all_eq_true.mp (List.all_eq_true.mp h d hd) d' hd'
theorem sortableB_ok {ds : List PyData} (h : sortableB ds = true) : PySem.W.Sortable ds := by
  rcases Bool.or_eq_true_iff.mp h with h | h
  · refine .inl fun d hd => ?_
    have q := List.all_eq_true.mp h d hd
    split at q
    · exact ⟨_, _, rfl⟩
    · cases q
  · refine .inr fun d hd => ?_
    have q := List.all_eq_true.mp h d hd
    split at q
    · cases q
    · cases q
    · rename_i h1 h2
      exact ⟨fun z => h1 z, fun xs z => h2 xs z⟩
/-- sorted(list of data) -/
def rSortD (K : PySem.W.Frag) (mg : Str → Option Value) : List V → Hp → VK → Prop := fun vs H Q => ∃ (a : Addr) (xs : List V) (F : Hp) (ds : List D), vs = [V.ref a] ∧ H a = some (.lst xs) ∧ Same F H ∧ repL K mg F ds xs ∧ okPyL ds = true ∧ allAlikeB (ds.map toPy) = true ∧ sortableB (ds.map toPy) = true ∧ ds.length ≤ 100000 ∧
  ∀ (p : Addr) (ys : List V), H p = none → repL K mg F (ds.mergeSort (PySem.W.dataLe false toPy)) ys → Q (.ref p) (upd H p (.lst ys))
theorem each_of {F : Hp} : ∀ {ds : List D} {xs : List V} {us : List Value}, repL X.K X.mg F ds xs → Vals xs us → PySem.W.EachIs (fun u d => ∃ v, RelV v u ∧ rep X.K X.mg F d v) us ds
  | [], _, _, h, r => by
    cases h
    cases r
    exact .nil
  | d :: ds, _, _, h, r => by
    obtain ⟨w, ws, rfl, h1, h2⟩ := h
    cases r with
    | cons r1 r2 => exact .cons ⟨w, r1, h1⟩ (each_of h2 r2)
theorem of_each {F : Hp} : ∀ {ds : List D} {us : List Value}, PySem.W.EachIs (fun u d => ∃ v, RelV v u ∧ rep X.K X.mg F d v) us ds → ∃ xs, repL X.K X.mg F ds xs ∧ Vals xs us
  | _, _, .nil => ⟨[], rfl, .nil⟩
  | _, _, .cons ⟨v, r, h⟩ t => by
    obtain ⟨xs, h1, h2⟩ := of_each t
    exact ⟨v :: xs, ⟨v, xs, rfl, h, h1⟩, .cons r h2⟩
theorem each_reads {F H : Hp} {pins : List (Addr × Obj)} {σ : St} {s : Shared} (I : Inv X pins σ H s) (sm : Same F H) : ∀ {ds : List D} {xs : List V} {us : List Value}, okPyL ds = true → repL X.K X.mg F ds xs → Vals xs us → PySem.W.EachIs (fun v b => ∃ as, Reads s.heap v (toPy b) as) us ds
  | [], _, _, _, h, r => by
    cases h
    cases r
    exact .nil
  | d :: ds, _, _, ok, h, r => by
    obtain ⟨w, ws, rfl, h1, h2⟩ := h
    have ok' : (okPy d && okPyL ds) = true := ok
    rw [Bool.and_eq_true] at ok'
    cases r with
    | cons r1 r2 => exact .cons (Dp.reads I _ _ _ (rep_dp sm d w (okPy_parts ok'.1).1 h1) r1) (each_reads I sm ok'.2 h2 r2)
theorem call_sortD (hu : X.A.units + 67 < cLine) : CallR X (.builtin "sorted") (rSortD X.K X.mg) := by
  intro pins s σ H vs us Q I r h
  obtain ⟨a, xs, F, ds, rfl, ha, sm, rl, ok, al, so, len, q⟩ := h
  rw [Vals.ref1 r]
  obtain ⟨its, rv, hl, hz⟩ := I.list (SqL.of ha)
  refine PySem.W.sorted_data (enc := toPy) (bs := ds) hl.isList (each_of rl rv) (each_reads I sm ok rl rv) (allAlikeB_ok al) (sortableB_ok so) (sl100 len) (fun b hb => ?_) fun out hlen he => ?_
  · have q := SeqAt.depth_of_shaped (okPy_parts (List.all_eq_true.mp ok b hb)).2
    omega
  · obtain ⟨ys, h1, h2⟩ := of_each he
    obtain ⟨ep, he'⟩ := PyProof.Rows.sortedAll_at s.heap its (List.toArray out)
    have hl' : ys.length ≤ sizeLine := by rw [repL_len h1, List.length_mergeSort]; exact sl100 len
    exact ⟨.ref _, upd H (s.heap.objs.size + 1) (.lst ys), I.laid (t' := s.toks) (fun _ _ => PyProof.Rows.sortedAll_old) (Nat.le_succ _) ⟨hl', out, ep, h2, by simpa using he'⟩, rfl, q _ ys (I.hok.fresh (Nat.le_succ _)) h1⟩
theorem un_sort : UnN X (fun v H Q => rSortD X.K X.mg [v] H Q) sortedD := by
  intro F H v d z Q s h1 h3 k
  unfold sortedD at h3
  split at h3
  · split at h3
    · rename_i hc
      cases h3
      obtain ⟨a, xs, rfl, ha, ra⟩ := h1
      exact ⟨a, xs, F, _, rfl, ha, s, ra, hc.1, hc.2.1, hc.2.2.1, hc.2.2.2, fun p ys hp hr => k p _ hp ⟨ys, upd_same, hr⟩⟩
    · cases h3
  · cases h3
end

/-! ### what is walked -/
def charsD (z : Str) : List D := z.cps.toList.map fun c => .str ⟨#[c]⟩
def seqD : D → Option (List D)
  | .lst ds => some ds
  | .tup ds => some ds
  | .str z => some (charsD z)
  | _ => none
def iSeq (f : En → Res (D × En)) : En → Res (List D × En) := fun r => (f r).bind fun p => (liftR (seqD p.1)).bind fun ds => .ok (ds, p.2)
def rngD (a b : Int) : List D := (List.range (b - a).toNat).map fun (i : Nat) => .int (a + i)
def iRg1 (f : En → Res (List D × En)) : En → Res (List D × En) := fun r => (f r).bind fun p => match p.1 with
  | [.int b] => if -(2 ^ 62) ≤ b ∧ b < 2 ^ 62 then .ok (rngD 0 b, p.2) else .bad
  | _ => .bad
def iRg2 (f : En → Res (List D × En)) : En → Res (List D × En) := fun r => (f r).bind fun p => match p.1 with
  | [.int a, .int b] => if -(2 ^ 62) ≤ a ∧ a < 2 ^ 62 ∧ -(2 ^ 62) ≤ b ∧ b < 2 ^ 62 then .ok (rngD a b, p.2) else .bad
  | _ => .bad
def enumD (ds : List D) : List D := ds.zipIdx.map fun q => .tup [.int q.2, q.1]
def iEn (f : En → Res (List D × En)) : En → Res (List D × En) := fun r => (f r).bind fun p => match p.1 with
  | [.lst ds] => .ok (enumD ds, p.2)
  | _ => .bad
section
variable {X : Cx} {W : WX} {tg e e2 : Expr} {p pos : Pos}
theorem wk_at {K : PySem.W.Frag} {mg : Str → Option Value} {F : Hp} {ds : List D} {vs : List V} {J : It} {G : Hp → Prop} (w : Walk J ds.length G (YAt vs)) (h : repL K mg F ds vs) (hG : ∀ F' H', Same F F' → Same F' H' → G H') : Wk K mg F ds J := by
  intro F' H' s1 s2
  have g := hG F' H' s1 s2
  refine ⟨fun i d e => ?_, w.stops H' g⟩
  have hlt := (List.getElem?_eq_some_iff.mp e).1
  refine ⟨w.goes i H' hlt g, fun x H'' y => ?_⟩
  obtain ⟨rfl, hx⟩ := w.yields i H' x H'' hlt g y
  obtain ⟨v, e1, e2⟩ := repL_get h e
  rw [hx] at e1
  cases e1
  exact ⟨F', Same.refl F', Same.refl _, s2, fun a h1 _ => h1, rep_mono s1 _ _ e2⟩
theorem wk_list {K : PySem.W.Frag} {mg : Str → Option Value} {F : Hp} {ds : List D} {vs : List V} {a : Addr} (ha : F a = some (.lst vs)) (h : repL K mg F ds vs) : Wk K mg F ds (Itl K a) := by
  refine wk_at (G := fun H => SqL K H a vs) (vs := vs) ?_ h fun F' H' s1 s2 => SqL.of (s2 _ _ (s1 _ _ ha))
  rw [← repL_len h]
  exact walk_list
theorem wk_tup {K : PySem.W.Frag} {mg : Str → Option Value} {F : Hp} {ds : List D} {vs : List V} {a : Addr} (ha : SqT K F a vs) (h : repL K mg F ds vs) : Wk K mg F ds (Itt K a) := by
  refine wk_at (G := fun H => SqT K H a vs) (vs := vs) ?_ h fun F' H' s1 s2 => sqT_mono s2 (sqT_mono s1 ha)
  rw [← repL_len h]
  exact walk_tup
theorem wk_str {K : PySem.W.Frag} {mg : Str → Option Value} {F : Hp} (z : Str) : Wk K mg F (charsD z) (Its z) := by
  intro F' H' s1 s2
  have w := walk_str (z := z)
  have hl : (charsD z).length = z.cps.size := by unfold charsD; simp
  refine ⟨fun i d e => ?_, by rw [hl]; exact w.stops H' trivial⟩
  have hlt := (List.getElem?_eq_some_iff.mp e).1
  rw [hl] at hlt
  refine ⟨w.goes i H' hlt trivial, fun x H'' y => ?_⟩
  obtain ⟨rfl, c, hc, hx⟩ := w.yields i H' x H'' hlt trivial y
  refine ⟨F', Same.refl F', Same.refl _, s2, fun a h1 _ => h1, ?_⟩
  unfold charsD at e
  rw [List.getElem?_map] at e
  have hc' : z.cps.toList[i]? = some c := by simpa using hc
  rw [hc'] at e
  cases e
  exact hx
theorem wk_range {K : PySem.W.Frag} {mg : Str → Option Value} {F : Hp} (a : Int) (n : Nat) : Wk K mg F ((List.range n).map fun (i : Nat) => .int (a + i)) (Itr a n) := by
  intro F' H' s1 s2
  have w := walk_range (lo := a) (n := n)
  refine ⟨fun i d e => ?_, by rw [List.length_map, List.length_range]; exact w.stops H' trivial⟩
  have hlt := (List.getElem?_eq_some_iff.mp e).1
  rw [List.length_map, List.length_range] at hlt
  refine ⟨w.goes i H' hlt trivial, fun x H'' y => ?_⟩
  obtain ⟨rfl, hx⟩ := w.yields i H' x H'' hlt trivial y
  refine ⟨F', Same.refl F', Same.refl _, s2, fun a h1 _ => h1, ?_⟩
  rw [List.getElem?_map, List.getElem?_range hlt] at e
  cases e
  exact hx
theorem wk_pair {K : PySem.W.Frag} {mg : Str → Option Value} {F : Hp} {ds : List D} {J : It} {G : Hp → Prop} {xs ys : Nat → Option V} (w : Walk J ds.length G (YPair xs ys)) (hG : ∀ F' H', Same F F' → Same F' H' → G H')
    (hp : ∀ i d x y, ds[i]? = some d → xs i = some x → ys i = some y → ∃ a b, d = .tup [a, b] ∧ rep K mg F a x ∧ rep K mg F b y) : Wk K mg F ds J := by
  intro F' H' s1 s2
  have g := hG F' H' s1 s2
  refine ⟨fun i d e => ?_, w.stops H' g⟩
  have hlt := (List.getElem?_eq_some_iff.mp e).1
  refine ⟨w.goes i H' hlt g, fun v H'' y => ?_⟩
  obtain ⟨T, x, z, rfl, hT, rfl, hx, hy⟩ := w.yields i H' v H'' hlt g y
  obtain ⟨a, b, rfl, ra, rb⟩ := hp i d x z e hx hy
  have fT : F' T = none := s2.free hT
  refine ⟨upd F' T (.tup [x, z]), same_new fT, same_new hT, fun c u hc => ?_, fun c h1 h2 => ?_, T, [x, z], rfl, SqT.of upd_same, x, [z], rfl, rep_mono (s1.trans (same_new fT)) _ _ ra, z, [], rfl, rep_mono (s1.trans (same_new fT)) _ _ rb, rfl⟩
  · by_cases q : c = T
    · subst q
      rw [upd_same] at hc ⊢
      exact hc
    · rw [upd_ne q] at hc ⊢
      exact s2 _ _ hc
  · rw [upd_ne fun z => h2 (by rw [z]; exact hT)]
    exact h1
theorem di_seq {f : En → Res (D × En)} (h : DE X W e f) : DI X W tg e (iSeq f) := by
  obtain ⟨t, hp, he⟩ := h.ex
  refine ⟨_, PI.or (PI.or (pi_list hp) (pi_tup hp)) (pi_str hp), fun B F H r σ Q R p => ?_⟩
  cases q : f r with
  | ok a =>
    obtain ⟨d, r'⟩ := a
    unfold iSeq at p
    simp only [q, bind_ok] at p
    cases d with
    | lst ds =>
      refine .inl (.inl (he B F H r σ _ R ?_))
      rw [q]
      intro v F1 H1 R1 s1 x1
      obtain ⟨a, xs, rfl, ha, ra⟩ := x1
      exact ⟨a, rfl, ⟨xs, SqL.of (R1.fh _ _ ha)⟩, p _ F1 H1 R1 s1 (wk_list ha ra)⟩
    | tup ds =>
      refine .inl (.inr (he B F H r σ _ R ?_))
      rw [q]
      intro v F1 H1 R1 s1 x1
      obtain ⟨a, xs, rfl, ha, ra⟩ := x1
      exact ⟨a, rfl, ⟨xs, sqT_mono R1.fh ha⟩, p _ F1 H1 R1 s1 (wk_tup ha ra)⟩
    | str z =>
      refine .inr (he B F H r σ _ R ?_)
      rw [q]
      intro v F1 H1 R1 s1 x1
      exact ⟨z, x1, p _ F1 H1 R1 s1 (wk_str z)⟩
    | _ => exact p.elim
  | er c fs r' =>
    unfold iSeq at p
    simp only [q, bind_er] at p
    refine .inl (.inl (he B F H r σ _ R ?_))
    rw [q]
    exact p
  | bad =>
    unfold iSeq at p
    simp only [q, bind_bad] at p
    exact p.elim
theorem di_range1 {f : En → Res (List D × En)} (hg : Gl X "range") (hm : X.mg "range" = none) (ha : DA X W [e] f) (hs : starEach [e] X.env = [(false, eval e X.env)] := by rfl) : DI X W tg (.Call (.Name "range" p) [e] [] pos) (iRg1 f) := by
  obtain ⟨t, hp, he⟩ := ha.ex
  refine ⟨_, pi_range1 hg hm hp hs, fun B F H r σ Q R p => he.to R p fun ds r1 vs F1 H1 R1 s1 x1 p1 => ?_⟩
  simp only at p1
  split at p1
  · rename_i b
    obtain ⟨w, ws, rfl, h1, h2⟩ := x1
    cases (show w = V.int b from h1)
    cases (show ws = [] from h2)
    split at p1
    · rename_i hc
      refine ⟨b, rfl, hc.1, hc.2, p1 _ F1 H1 R1 (Same.refl F1) ?_⟩
      have z := wk_range (K := X.K) (mg := X.mg) (F := F1) 0 (b - 0).toNat
      rw [show (b - 0).toNat = b.toNat by simp] at z
      show Wk X.K X.mg F1 (rngD 0 b) (Itr 0 b.toNat)
      unfold rngD
      rw [show (b - 0).toNat = b.toNat by simp]
      exact z
    · exact p1.elim
  · exact p1.elim
theorem di_range2 {f : En → Res (List D × En)} (hg : Gl X "range") (hm : X.mg "range" = none) (ha : DA X W [e, e2] f) (hs : starEach [e, e2] X.env = [(false, eval e X.env), (false, eval e2 X.env)] := by rfl) (hs2 : starEach [e2] X.env = [(false, eval e2 X.env)] := by rfl) :
    DI X W tg (.Call (.Name "range" p) [e, e2] [] pos) (iRg2 f) := by
  obtain ⟨t, hp, he⟩ := ha.ex
  refine ⟨_, pi_range2 hg hm hp hs hs2, fun B F H r σ Q R p => he.to R p fun ds r1 vs F1 H1 R1 s1 x1 p1 => ?_⟩
  simp only at p1
  split at p1
  · rename_i a b
    obtain ⟨w, ws, rfl, h1, h2⟩ := x1
    obtain ⟨w2, ws2, rfl, h3, h4⟩ := h2
    cases (show w = V.int a from h1)
    cases (show w2 = V.int b from h3)
    cases (show ws2 = [] from h4)
    split at p1
    · rename_i hc
      exact ⟨a, b, rfl, hc, p1 _ F1 H1 R1 (Same.refl F1) (wk_range a (b - a).toNat)⟩
    · exact p1.elim
  · exact p1.elim
theorem di_enum {f : En → Res (List D × En)} {elts : List Expr} {kk : Nat} {tpos : Pos} (hg : Gl X "enumerate") (hm : X.mg "enumerate" = none) (ha : DA X W [e] f) (hs : starEach [e] X.env = [(false, eval e X.env)] := by rfl) : DI X W (.Tuple elts kk tpos) (.Call (.Name "enumerate" p) [e] [] pos) (iEn f) := by
  obtain ⟨t, hp, he⟩ := ha.ex
  refine ⟨_, pi_enum hg hm hp hs, fun B F H r σ Q R p => he.to R p fun ds r1 vs F1 H1 R1 s1 x1 p1 => ?_⟩
  simp only at p1
  split at p1
  · rename_i es
    obtain ⟨w, ws, rfl, h1, h2⟩ := x1
    obtain ⟨a, xs, rfl, ha, ra⟩ := h1
    cases (show ws = [] from h2)
    refine ⟨a, xs, rfl, SqL.of (R1.fh _ _ ha), p1 _ F1 H1 R1 (Same.refl F1) ?_⟩
    have hl : (enumD es).length = xs.length := by unfold enumD; rw [List.length_map, List.length_zipIdx, repL_len ra]
    refine wk_pair (G := fun H => SqL X.K H a xs) (xs := fun i => some (.int (i : Nat))) (ys := fun i => xs[i]?) ?_ (fun F' H' s1 s2 => SqL.of (s2 _ _ (s1 _ _ ha))) ?_
    · rw [hl]
      exact walk_enum
    · intro i d x y e hx hy
      unfold enumD at e
      rw [List.getElem?_map, List.getElem?_zipIdx] at e
      cases q : es[i]? with
      | none =>
        rw [q] at e
        cases e
      | some d0 =>
        rw [q] at e
        cases e
        obtain ⟨v, e1, e2⟩ := repL_get ra q
        have hy' : xs[i]? = some y := hy
        rw [hy'] at e1
        cases e1
        cases hx
        exact ⟨_, _, rfl, by simp [rep], e2⟩
  · exact p1.elim
end
end Dl

set_option Elab.async false
set_option linter.all false
set_option maxRecDepth 100000
set_option maxHeartbeats 4000000
namespace Dl
open PySem L2

/-! ### isinstance -/
def tnD : D → Option String
  | .non => some "NoneType"
  | .bl _ => some "bool"
  | .int _ => some "int"
  | .str _ => some "str"
  | .lst _ => some "list"
  | .tup _ => some "tuple"
  | .dk _ => some "dict"
  | .dt _ => some "dict"
  | _ => none
def isT (t n : String) : Bool := t == n || (t == "bool" && n == "int")
def tyNs : List String := ["NoneType", "bool", "int", "str", "list", "tuple", "dict"]
def argNs : List String := ["int", "bool", "str", "list", "tuple", "dict"]
theorem kit_tab : ∀ t ∈ tyNs, ∀ n ∈ argNs, kitB t n = some (isT t n) := by decide +kernel
theorem tnD_mem {d : D} {t : String} (h : tnD d = some t) : t ∈ tyNs := by
  cases d <;> simp only [tnD] at h <;> first | (cases h; decide) | cases h
structure InsC (K : PySem.W.Frag) (C : Addr) : Prop where
  cl : Cls K C
  ha : PySem.W.findIn K (.ref C) "__class__" = some (some (.builtin "object.__class__"))
  hn : PySem.W.specialIn K (.builtin "object.__class__") "__get__" = some (some (.builtin "getset_descriptor.__get__"))
  htk : PySem.W.takesIn K (.builtin "object.__class__") = some true
  hm : PySem.W.mroIn K C (.type "object") = some true
theorem vw_ty {K : PySem.W.Frag} {mg : Str → Option Value} {F H : Hp} {d : D} {v : V} {t : String} (h : vw K mg F H d v) (e : tnD d = some t) : TyX K H v (.type t) := by
  cases d with
  | non =>
    cases h
    cases e
    exact .base .non
  | bl b =>
    cases h
    cases e
    exact .base (.bl b)
  | int b =>
    cases h
    cases e
    exact .base (.int b)
  | str b =>
    cases h
    cases e
    exact .base (.str b)
  | lst ds =>
    obtain ⟨a, xs, rfl, ha, _⟩ := h
    cases e
    exact .base (.lst ha)
  | tup ds =>
    obtain ⟨a, xs, rfl, ha, _⟩ := h
    cases e
    rcases ha with (ha | ⟨o, ha⟩) | ⟨o, its, n, hk, hc, _⟩
    · exact .base (.tup ha)
    · exact .fTuple ha
    · exact .kTuple hk hc
  | dk kvs =>
    obtain ⟨a, xs, rfl, ha, _⟩ := h
    cases e
    rcases ha with ha | ⟨o, ha⟩
    · exact .base (.dK ha)
    · exact .fDict ha
  | dt kvs =>
    obtain ⟨a, xs, rfl, ha, _⟩ := h
    cases e
    exact .base (.dT ha)
  | _ => cases e
/-- isinstance(x, (T1, ..)): built-in classes; instances of the classes cs are none of these -/
def isiB (ns : List String) (cs : List Str) : D → Option D
  | .ins c _ => if c ∈ cs then some (.bl false) else none
  | d => (tnD d).map fun t => .bl (ns.any fun n => isT t n)
/-- isinstance(x, C), C an own class; the instances of cs are none -/
def isiO (c : Str) (cs : List Str) : D → Option D
  | .ins c' _ => if c' = c then some (.bl true) else if c' ∈ cs then some (.bl false) else none
  | d => (tnD d).map fun _ => .bl false
theorem kitAny_tab {K : PySem.W.Frag} {t : String} (ht : t ∈ tyNs) : ∀ {ns : List String}, (∀ n ∈ ns, n ∈ argNs) → PySem.W.kitAny K (.type t) (ns.map Value.type) = some (ns.any fun n => isT t n)
  | [], _ => rfl
  | n :: ns, h => by
    have k := kit_ty (K := K) (kit_tab t ht n (h n (by simp)))
    rw [List.map_cons, List.any_cons]
    unfold PySem.W.kitAny
    rw [k]
    cases isT t n with
    | true => rfl
    | false =>
      rw [Bool.false_or]
      exact kitAny_tab ht fun m hm => h m (List.mem_cons_of_mem _ hm)
theorem kitAny_no {K : PySem.W.Frag} {t : Value} : ∀ {us : List Value}, (∀ u ∈ us, PySem.W.kitOne K t u = some false) → PySem.W.kitAny K t us = some false
  | [], _ => rfl
  | u :: us, h => by
    unfold PySem.W.kitAny
    rw [h u (by simp)]
    exact kitAny_no fun m hm => h m (List.mem_cons_of_mem _ hm)
/-- what is known of own classes for isinstance -/
structure NotB (K : PySem.W.Frag) (mg : Str → Option Value) (cs : List Str) (ns : List String) : Prop where
  h : ∀ c ∈ cs, ∀ C, mg c = some (.ref C) → InsC K C ∧ ∀ n ∈ ns, PySem.W.kitOne K (.ref C) (.type n) = some false
theorem vw_isi {K : PySem.W.Frag} {mg : Str → Option Value} {F H : Hp} {d z : D} {v : V} {ns : List String} {cs : List Str} (hns : ∀ n ∈ ns, n ∈ argNs) (hcs : NotB K mg cs ns) (h : vw K mg F H d v) (e : isiB ns cs d = some z) :
    ∃ t b, z = .bl b ∧ TyX K H v t ∧ PySem.W.kitAny K t (ns.map Value.type) = some b := by
  have key : ∀ t, tnD d = some t → z = .bl (ns.any fun n => isT t n) → ∃ t b, z = .bl b ∧ TyX K H v t ∧ PySem.W.kitAny K t (ns.map Value.type) = some b := fun t ht hz => ⟨_, _, hz, vw_ty h ht, kitAny_tab (tnD_mem ht) hns⟩
  cases d with
  | ins c fs =>
    unfold isiB at e
    by_cases hc : c ∈ cs
    · simp only [if_pos hc] at e
      cases e
      obtain ⟨a, C, dx, ws, rfl, hC, hH, _⟩ := h
      obtain ⟨k, kn⟩ := hcs.h c hc C hC
      refine ⟨.ref C, false, rfl, .base (.ins hH k.cl k.ha k.hn k.htk k.hm), kitAny_no fun u hu => ?_⟩
      obtain ⟨n, hn, rfl⟩ := List.mem_map.mp hu
      exact kn n hn
    · simp only [if_neg hc] at e
      cases e
  | non => cases e; exact key _ rfl rfl
  | bl b => cases e; exact key _ rfl rfl
  | int b => cases e; exact key _ rfl rfl
  | str b => cases e; exact key _ rfl rfl
  | lst b => cases e; exact key _ rfl rfl
  | tup b => cases e; exact key _ rfl rfl
  | dk b => cases e; exact key _ rfl rfl
  | dt b => cases e; exact key _ rfl rfl
  | _ => cases e
/-- the classes as arguments -/
def tTys (ns : List String) : TA := fun _ H Q => Q (ns.map V.ty) H
section
variable {X : Cx} {W : WX} {e : Expr} {p q pos tpos : Pos} {fa : En → Res (BV × En)}
theorem pa_ty0 : PA X [] (tTys []) := ⟨fun pos pins s σ H Q I h => pa_nil.run pos pins s σ H Q I h⟩
theorem pa_ty1 {x : Str} {n : String} {ns : List String} {es : List Expr} (hg : Gl X x) (hm : X.mg x = none) (hv : bootBuiltins x = some (.type n)) (hr : PA X es (tTys ns)) (hn : x ≠ "__name__" := by decide) (hd : (x == ("__debug__" : Str)) = false := by decide)
    (hs : starEach (.Name x q :: es) X.env = (false, eval (.Name x q) X.env) :: starEach es X.env := by rfl) : PA X (.Name x q :: es) (tTys (n :: ns)) :=
  ⟨fun pos pins s σ H Q I h => (pa_cons (pe_bltn (v := .ty n) hg hm hv rfl hn hd) hr hs).run pos pins s σ H Q I h⟩
theorem clsV_all : ∀ ns : List String, Paired ClsV (ns.map V.ty) (ns.map Value.type)
  | [] => .nil
  | n :: ns => .cons (.ty n) (clsV_all ns)
/-- isinstance(x, T) -/
theorem de_isi1 {x : Str} {n : String} {cs : List Str} (hgi : Gl X "isinstance") (hmi : X.mg "isinstance" = none) (hbi : bootBuiltins "isinstance" = some (.builtin "isinstance")) (hg : Gl X x) (hm : X.mg x = none) (hv : bootBuiltins x = some (.type n)) (hn : n ∈ argNs) (hcs : NotB X.K X.mg cs [n]) (ha : DB X W e fa)
    (hst : starEach [e, .Name x q] X.env = (false, eval e X.env) :: starEach [.Name x q] X.env := by rfl) (hst2 : starEach [.Name x q] X.env = (false, eval (.Name x q) X.env) :: starEach [] X.env := by rfl) (hxn : x ≠ "__name__" := by decide) (hd : (x == ("__debug__" : Str)) = false := by decide) :
    DE X W (.Call (.Name "isinstance" p) [e, .Name x q] [] pos) (eUn (isiB [n] cs) fa) := by
  obtain ⟨t, hp, he⟩ := ha.ex
  refine ⟨_, pe_callB call_isi hgi hmi hbi (pa_cons hp (pa_ty1 hg hm hv pa_ty0 hxn hd hst2) hst) (by decide) (by decide) hst (by rw [hst2]; rfl), ?_⟩
  refine un_ent (rr := fun v H Q => rIsi X.K [v, .ty n] H Q) he (unV_hr ?_)
  intro F H v d z Q s h1 h3 k
  obtain ⟨t, b, rfl, ht, hk⟩ := vw_isi (fun m hm => by rw [List.mem_singleton.mp hm]; exact hn) hcs h1 h3
  refine ⟨v, .ty n, t, .type n, b, rfl, .ty n, ht, ?_, k _ rfl⟩
  have hk' : (match PySem.W.kitOne X.K t (.type n) with
    | some true => some true
    | some false => some false
    | none => none) = some b := hk
  cases z : PySem.W.kitOne X.K t (.type n) with
  | none =>
    rw [z] at hk'
    cases hk'
  | some c =>
    rw [z] at hk'
    cases c <;> exact hk'
/-- isinstance(x, (T1, ..)) -/
theorem de_isiT {h : En → Res (D × En)} {es : List Expr} {kk : Nat} {ns : List String} {cs : List Str} (hgi : Gl X "isinstance") (hmi : X.mg "isinstance" = none) (hbi : bootBuiltins "isinstance" = some (.builtin "isinstance")) (hts : PA X es (tTys ns)) (hns : ∀ n ∈ ns, n ∈ argNs) (hl : ns.length ≤ 1000) (hcs : NotB X.K X.mg cs ns) (ha : DE X W e h)
    (hst : starEach [e, .Tuple es kk tpos] X.env = (false, eval e X.env) :: starEach [.Tuple es kk tpos] X.env := by rfl) (hst2 : starEach [.Tuple es kk tpos] X.env = (false, eval (.Tuple es kk tpos) X.env) :: starEach [] X.env := by rfl) :
    DE X W (.Call (.Name "isinstance" p) [e, .Tuple es kk tpos] [] pos) (eUn (isiB ns cs) (bOf h)) := by
  obtain ⟨t, hp, he⟩ := ha.ex
  refine ⟨_, pe_callB call_isiT hgi hmi hbi (pa_cons hp (pa_cons (pe_tup hts) pa_nil hst2) hst) (by decide) (by decide) hst (by rw [hst2]; rfl), fun B F H r σ Q R p0 => ?_⟩
  unfold eUn bOf at p0
  cases q : h r with
  | ok a =>
    obtain ⟨d, r1⟩ := a
    rw [q] at p0
    simp only [bind_ok, getB] at p0
    refine he B F H r σ _ R ?_
    rw [q]
    intro v F1 H1 R1 s1 x1
    cases z : isiB ns cs d with
    | none =>
      simp only [z, liftR, bind_bad] at p0
      exact p0.elim
    | some d1 =>
      simp only [z, liftR, bind_ok] at p0
      refine ⟨Nat.le_of_lt (small1000 (by rw [List.length_map]; exact hl)), fun pa hpa => ?_⟩
      have R2 := R1.newO (o := .tup (ns.map V.ty)) hpa
      have x2 := vw_of R2.fh d v x1
      obtain ⟨t, b, rfl, ht, hk⟩ := vw_isi hns hcs x2 z
      exact ⟨v, pa, _, t, _, b, rfl, upd_same, clsV_all ns, ht, hk, p0 _ F1 _ R2 s1 rfl⟩
  | er c fs r' =>
    rw [q] at p0
    refine he B F H r σ _ R ?_
    rw [q]
    exact p0
  | bad =>
    rw [q] at p0
    exact p0.elim
/-- isinstance(x, C) -/
theorem de_isiO {x : Str} {C : Addr} {cs : List Str} (hgi : Gl X "isinstance") (hmi : X.mg "isinstance" = none) (hbi : bootBuiltins "isinstance" = some (.builtin "isinstance")) (hg : Gl X x) (hm : X.mg x = some (.ref C)) (hb : ∀ t ∈ tyNs, PySem.W.kitOne X.K (.type t) (.ref C) = some false) (hc : InsC X.K C)
    (hcs : ∀ c ∈ cs, ∀ C', X.mg c = some (.ref C') → InsC X.K C' ∧ PySem.W.kitOne X.K (.ref C') (.ref C) = some false) (ha : DB X W e fa)
    (hst : starEach [e, .Name x q] X.env = (false, eval e X.env) :: starEach [.Name x q] X.env := by rfl) (hst2 : starEach [.Name x q] X.env = (false, eval (.Name x q) X.env) :: starEach [] X.env := by rfl) (hd : (x == ("__debug__" : Str)) = false := by decide) :
    DE X W (.Call (.Name "isinstance" p) [e, .Name x q] [] pos) (eUn (isiO x cs) fa) := by
  obtain ⟨t, hp, he⟩ := ha.ex
  refine ⟨_, pe_callB call_isi hgi hmi hbi (pa_cons hp (pa_cons (pe_glob (v := .ref C) hg hm rfl hd) pa_nil hst2) hst) (by decide) (by decide) hst (by rw [hst2]; rfl), ?_⟩
  refine un_ent (rr := fun v H Q => rIsi X.K [v, .ref C] H Q) he (unV_hr ?_)
  intro F H v d z Q s h1 h3 k
  have key : ∀ t, tnD d = some t → z = .bl false → rIsi X.K [v, .ref C] H Q := fun t ht hz => by
    subst hz
    exact ⟨v, .ref C, _, .ref C, false, rfl, .own C, vw_ty h1 ht, hb t (tnD_mem ht), k _ rfl⟩
  cases d with
  | ins c fs =>
    obtain ⟨a, C', dx, ws, rfl, hC, hH, _⟩ := h1
    unfold isiO at h3
    by_cases hcc : c = x
    · simp only [if_pos hcc] at h3
      cases h3
      rw [hcc, hm] at hC
      cases hC
      exact ⟨_, .ref C, .ref C, .ref C, true, rfl, .own C, .base (.ins hH hc.cl hc.ha hc.hn hc.htk hc.hm), by unfold PySem.W.kitOne; simp, k _ rfl⟩
    · simp only [if_neg hcc] at h3
      by_cases hc2 : c ∈ cs
      · simp only [if_pos hc2] at h3
        cases h3
        obtain ⟨k1, k2⟩ := hcs c hc2 C' hC
        exact ⟨_, .ref C, .ref C', .ref C, false, rfl, .own C, .base (.ins hH k1.cl k1.ha k1.hn k1.htk k1.hm), k2, k _ rfl⟩
      · simp only [if_neg hc2] at h3
        cases h3
  | non => cases h3; exact key _ rfl rfl
  | bl b => cases h3; exact key _ rfl rfl
  | int b => cases h3; exact key _ rfl rfl
  | str b => cases h3; exact key _ rfl rfl
  | lst b => cases h3; exact key _ rfl rfl
  | tup b => cases h3; exact key _ rfl rfl
  | dk b => cases h3; exact key _ rfl rfl
  | dt b => cases h3; exact key _ rfl rfl
  | _ => cases h3
end
/-! ### slices -/
def doNone : En → Res (Option Int × En) := fun r => .ok (none, r)
def doSome (f : En → Res (D × En)) : En → Res (Option Int × En) := fun r => (f r).bind fun p => match p.1 with
  | .int i => .ok (some i, p.2)
  | _ => .bad
def rO : RR (Option Int) (Option Int) := fun _ _ _ _ _ a b => a = b
structure DO (X : Cx) (W : WX) (e : Option Expr) (f : En → Res (Option Int × En)) : Prop where
  ex : ∃ t, PO X e t ∧ Ent X.K X.mg W rO t f
def cutD (xs : List D) (lo hi : Option Int) : List D := (xs.drop (HT.sIx xs.length 0 lo)).take (HT.sIx xs.length xs.length hi - HT.sIx xs.length 0 lo)
def slL (d : D) (lo hi : Option Int) : Option D := match d with
  | .lst ds => some (.lst (cutD ds lo hi))
  | _ => none
def eSl (g : D → Option Int → Option Int → Option D) (fe : En → Res (BV × En)) (fl fh : En → Res (Option Int × En)) : En → Res (D × En) := fun r => (fe r).bind fun p => (fl p.2).bind fun l => (fh l.2).bind fun u => (getB p.1 u.2).bind fun d => (liftR (g d l.1 u.1)).bind fun z => .ok (z, u.2)
section
variable {K : PySem.W.Frag} {mg : Str → Option Value} {F : Hp}
theorem repL_drop : ∀ (n : Nat) {ds : List D} {vs : List V}, repL K mg F ds vs → repL K mg F (ds.drop n) (vs.drop n)
  | 0, _, _, h => h
  | n + 1, [], _, h => by
    cases h
    rfl
  | n + 1, d :: ds, _, h => by
    obtain ⟨w, ws, rfl, h1, h2⟩ := h
    exact repL_drop n h2
theorem repL_take : ∀ (n : Nat) {ds : List D} {vs : List V}, repL K mg F ds vs → repL K mg F (ds.take n) (vs.take n)
  | 0, _, _, h => by
    rw [List.take_zero, List.take_zero]
    rfl
  | n + 1, [], _, h => by
    cases h
    rfl
  | n + 1, d :: ds, _, h => by
    obtain ⟨w, ws, rfl, h1, h2⟩ := h
    exact ⟨w, _, rfl, h1, repL_take n h2⟩
end
section
variable {X : Cx} {W : WX} {e : Expr} {pos p2 : Pos} {fe : En → Res (BV × En)} {fl fh : En → Res (Option Int × En)} {lo hi : Option Expr}
theorem do_none : DO X W none doNone := ⟨_, po_none, fun B F H r σ Q R p => p none F H R (Same.refl F) rfl⟩
theorem do_some {f : En → Res (D × En)} (h : DE X W e f) : DO X W (some e) (doSome f) := by
  obtain ⟨t, hp, he⟩ := h.ex
  refine ⟨_, po_some hp, fun B F H r σ Q R p => he.to R p fun d r1 v F1 H1 R1 s1 x1 p1 => ?_⟩
  cases d with
  | int i => exact ⟨i, x1, p1 _ F1 H1 R1 (Same.refl F1) rfl⟩
  | _ => exact p1.elim
theorem dn_sl (he : DB X W e fe) (hl : DO X W lo fl) (hu : DO X W hi fh) : DN X W (.Subscript e (.Slice lo hi none p2) pos) (eSl slL fe fl fh) := by
  obtain ⟨t, hp, ee⟩ := he.ex
  obtain ⟨tl, hpl, el⟩ := hl.ex
  obtain ⟨tu, hpu, eu⟩ := hu.ex
  refine ⟨_, pe_slice sl_list hp hpl hpu, fun B F H r σ Q R p => ee.to R p fun b r1 v F1 H1 R1 s1 x1 p1 => ?_⟩
  refine el.to R1 p1 fun l r2 l' F2 H2 R2 s2 x2 p2 => ?_
  cases (show l = l' from x2)
  refine eu.to R2 p2 fun u r3 u' F3 H3 R3 s3 x3 p3 => ?_
  cases (show u = u' from x3)
  have x1' := rB_mono (r' := r3) (H' := H3) (s2.trans s3) x1
  cases g1 : getB b r3 with
  | ok d =>
    simp only [g1, bind_ok] at p3
    cases d with
    | lst ds =>
      obtain ⟨a, xs, rfl, ha, ra⟩ := getB_vw R3 x1' g1
      refine ⟨a, xs, rfl, SqL.of ha, fun pa hpa => ?_⟩
      refine p3 _ F3 _ (R3.newO hpa) (Same.refl F3) ⟨pa, rfl, R3.fh.free hpa, (R3.new_ne hpa).1, (R3.new_ne hpa).2, R3.loose_new hpa, _, upd_same, ?_⟩
      unfold cutD cutV
      rw [repL_len ra]
      exact repL_take _ (repL_drop _ ra)
    | _ => exact p3.elim
  | er c fs r' => exact (getB_ner g1).elim
  | bad =>
    simp only [g1, bind_bad] at p3
    exact p3.elim
end
/-! ### a < b < c -/
def eChain (g g' : D → D → Option D) (fa fb fc : En → Res (BV × En)) : En → Res (D × En) := fun r => (fa r).bind fun p => (fb p.2).bind fun q => (getB p.1 q.2).bind fun x => (getB q.1 q.2).bind fun y => match g x y with
  | some (.bl true) => (fc q.2).bind fun u => (getB q.1 u.2).bind fun y => (getB u.1 u.2).bind fun w => (liftR (g' y w)).bind fun z => .ok (z, u.2)
  | some (.bl false) => .ok (.bl false, q.2)
  | _ => .bad
section
variable {X : Cx} {W : WX} {a b c : Expr} {pos : Pos} {fa fb fc : En → Res (BV × En)} {g g' : D → D → Option D} {op op' : CmpOp} {r r' : R2}
theorem chain_ent {ta tb tc : TE} (ha : Ent X.K X.mg W (rB X.K X.mg) ta fa) (hb : Ent X.K X.mg W (rB X.K X.mg) tb fb) (hc : Ent X.K X.mg W (rB X.K X.mg) tc fc) (hv : OpV X r g) (hv' : OpV X r' g') : Ent X.K X.mg W (rE X.K X.mg) (tChain r r' ta tb tc) (eChain g g' fa fb fc) := by
  intro B F H r0 σ Q R p
  refine ha.to R p fun a r1 v F1 H1 R1 s1 x1 p1 => ?_
  refine hb.to R1 p1 fun b r2 u F2 H2 R2 s2 x2 p2 => ?_
  have x1' := rB_mono (r' := r2) (H' := H2) s2 x1
  cases g1 : getB a r2 with
  | ok d1 =>
    cases g2 : getB b r2 with
    | ok d2 =>
      simp only [g1, g2, bind_ok] at p2
      cases g3 : g d1 d2 with
      | some z =>
        simp only [g3] at p2
        cases z with
        | bl k =>
          refine hv F2 H2 v u d1 d2 (.bl k) _ R2.fh (getB_vw R2 x1' g1) (getB_vw R2 x2 g2) g3 fun w hw => ⟨k, hw, ?_⟩
          cases k with
          | true =>
            simp only at p2
            rw [if_pos rfl]
            refine hc.to R2 p2 fun e r3 t F3 H3 R3 s3 x3 p3 => ?_
            have x2' := rB_mono (r' := r3) (H' := H3) s3 x2
            cases g4 : getB b r3 with
            | ok d3 =>
              cases g5 : getB e r3 with
              | ok d4 =>
                simp only [g4, g5, bind_ok] at p3
                cases g6 : g' d3 d4 with
                | some z =>
                  simp only [g6, liftR, bind_ok] at p3
                  exact opV_hr hv' B F3 H3 r3 σ u t d3 d4 z Q R3 (getB_vw R3 x2' g4) (getB_vw R3 x3 g5) g6 p3
                | none =>
                  simp only [g6, liftR, bind_bad] at p3
                  exact p3.elim
              | er c fs r' => exact (getB_ner g5).elim
              | bad =>
                simp only [g4, g5, bind_ok, bind_bad] at p3
                exact p3.elim
            | er c fs r' => exact (getB_ner g4).elim
            | bad =>
              simp only [g4, bind_bad] at p3
              exact p3.elim
          | false =>
            simp only at p2
            rw [if_neg Bool.false_ne_true]
            exact p2 _ F2 H2 R2 (Same.refl F2) rfl
        | _ => exact p2.elim
      | none =>
        simp only [g3] at p2
        exact p2.elim
    | er c fs r' => exact (getB_ner g2).elim
    | bad =>
      simp only [g1, g2, bind_ok, bind_bad] at p2
      exact p2.elim
  | er c fs r' => exact (getB_ner g1).elim
  | bad =>
    simp only [g1, bind_bad] at p2
    exact p2.elim
end
end Dl

set_option Elab.async false
set_option linter.all false
set_option maxRecDepth 100000
set_option maxHeartbeats 4000000
namespace Dl
open PySem L2

/-! ### dicts -/
def keyD : D → Option Key
  | .int i => some (.inl i)
  | .str x => some (.inr x)
  | _ => none
def getKD (kvs : List (Key × D)) (k : Key) : Option D := (kvs.find? fun kv => decide (kv.1 = k)).map (·.2)
def putKD (kvs : List (Key × D)) (k : Key) (d : D) : List (Key × D) :=
  if (kvs.any fun kv => decide (kv.1 = k)) = true then kvs.map (fun kv => if kv.1 = k then (kv.1, d) else kv) else kvs ++ [(k, d)]
def dgetD : D → D → Option D
  | .dk kvs, k => (keyD k).bind fun k => getKD kvs k
  | _, _ => none
def dinD : D → D → Option D
  | k, .dk kvs => (keyD k).map fun k => .bl (getKD kvs k).isSome
  | _, _ => none
def dninD : D → D → Option D
  | k, .dk kvs => (keyD k).map fun k => .bl (!(getKD kvs k).isSome)
  | _, _ => none
section
variable {K : PySem.W.Frag} {mg : Str → Option Value} {F H : Hp}
theorem repK_get {k : Key} : ∀ {kvs : List (Key × D)} {ws : List (Key × V)}, repK K mg F kvs ws → (getKD kvs k = none ∧ valV ws k = none) ∨ ∃ d v, getKD kvs k = some d ∧ valV ws k = some v ∧ rep K mg F d v
  | [], _, h => by
    cases h
    exact .inl ⟨rfl, rfl⟩
  | (j, d) :: kvs, _, h => by
    obtain ⟨w, ws, rfl, h1, h2⟩ := h
    by_cases q : j = k
    · refine .inr ⟨d, w, ?_, ?_, h1⟩
      · unfold getKD
        simp [List.find?_cons, q]
      · exact valV_pos q
    · have e1 : getKD ((j, d) :: kvs) k = getKD kvs k := by
        unfold getKD
        simp [List.find?_cons, q]
      have e2 : valV ((j, w) :: ws) k = valV ws k := valV_neg q
      rw [e1, e2]
      exact repK_get h2
theorem keyD_rep {d : D} {k : Key} {v : V} (h : keyD d = some k) (hr : vw K mg F H d v) : v = kV k := by
  cases d with
  | int i =>
    cases h
    exact hr
  | str x =>
    cases h
    exact hr
  | _ => cases h
theorem repK_any {k : Key} : ∀ {kvs : List (Key × D)} {ws : List (Key × V)}, repK K mg F kvs ws → (ws.any fun kv => decide (kv.1 = k)) = (kvs.any fun kv => decide (kv.1 = k))
  | [], _, h => by
    cases h
    rfl
  | (j, d) :: kvs, _, h => by
    obtain ⟨w, ws, rfl, h1, h2⟩ := h
    simp only [List.any_cons, repK_any h2]
theorem repK_repl {k : Key} {d : D} {v : V} (hr : rep K mg F d v) : ∀ {kvs : List (Key × D)} {ws : List (Key × V)}, repK K mg F kvs ws → repK K mg F (kvs.map fun kv => if kv.1 = k then (kv.1, d) else kv) (ws.map fun kv => if kv.1 = k then (kv.1, v) else kv)
  | [], _, h => by
    cases h
    rfl
  | (j, d0) :: kvs, _, h => by
    obtain ⟨w, ws, rfl, h1, h2⟩ := h
    simp only [List.map_cons]
    by_cases q : j = k
    · simp only [if_pos q]
      exact ⟨v, _, rfl, hr, repK_repl hr h2⟩
    · simp only [if_neg q]
      exact ⟨w, _, rfl, h1, repK_repl hr h2⟩
theorem repK_app : ∀ {ds es : List (Key × D)} {vs ws : List (Key × V)}, repK K mg F ds vs → repK K mg F es ws → repK K mg F (ds ++ es) (vs ++ ws)
  | [], _, _, _, h, h' => by
    cases h
    exact h'
  | (k, d) :: ds, _, _, _, h, h' => by
    obtain ⟨w, ws, rfl, h1, h2⟩ := h
    exact ⟨w, _, rfl, h1, repK_app h2 h'⟩
theorem repK_put {k : Key} {d : D} {v : V} {kvs : List (Key × D)} {ws : List (Key × V)} (hr : rep K mg F d v) (h : repK K mg F kvs ws) : repK K mg F (putKD kvs k d) (putK ws k v) := by
  unfold putKD putK
  rw [repK_any h]
  by_cases q : (kvs.any fun kv => decide (kv.1 = k)) = true
  · rw [if_pos q, if_pos q]
    exact repK_repl hr h
  · rw [if_neg q, if_neg q]
    exact repK_app h ⟨v, [], rfl, hr, rfl⟩
end
section
variable {X : Cx} {W : WX} {a b : Expr} {pos : Pos} {fa fb : En → Res (BV × En)}
theorem ov_dget : OpV X (fun x y H Q => ∃ a v, x = .ref a ∧ DGet H a y (some v) ∧ Q v H) dgetD := by
  intro F H x y d e z Q s h1 h2 h3 k
  cases d with
  | dk kvs =>
    cases hk : keyD e with
    | none =>
      simp only [dgetD, hk] at h3
      cases h3
    | some key =>
      simp only [dgetD, hk] at h3
      obtain ⟨p, ws, rfl, ha, ra⟩ := h1
      rcases repK_get (k := key) ra with ⟨n1, _⟩ | ⟨d, v, e1, e2, e3⟩
      · have h3' : getKD kvs key = some z := h3
        rw [n1] at h3'
        cases h3'
      · have h3' : getKD kvs key = some z := h3
        rw [e1] at h3'
        cases h3'
        exact ⟨p, v, rfl, .inl ⟨ws, key, ha, keyD_rep hk h2, e2.symm⟩, k v e3⟩
  | _ => cases h3
theorem ov_din : OpV X (fun y x H Q => ∃ a o, x = .ref a ∧ DGet H a y o ∧ Q (.bl o.isSome) H) dinD := by
  intro F H x y d e z Q s h1 h2 h3 k
  cases e with
  | dk kvs =>
    cases hk : keyD d with
    | none =>
      simp only [dinD, hk] at h3
      cases h3
    | some key =>
      simp only [dinD, hk] at h3
      cases h3
      obtain ⟨p, ws, rfl, ha, ra⟩ := h2
      refine ⟨p, valV ws key, rfl, .inl ⟨ws, key, ha, keyD_rep hk h1, rfl⟩, ?_⟩
      rcases repK_get (k := key) ra with ⟨n1, n2⟩ | ⟨d, v, e1, e2, e3⟩
      · rw [n2]
        exact k _ (by simp only [n1]; rfl)
      · rw [e2]
        exact k _ (by simp only [e1]; rfl)
  | _ => cases d <;> cases h3
theorem ov_dnin : OpV X (fun y x H Q => ∃ a o, x = .ref a ∧ DGet H a y o ∧ Q (.bl (!o.isSome)) H) dninD := by
  intro F H x y d e z Q s h1 h2 h3 k
  cases e with
  | dk kvs =>
    cases hk : keyD d with
    | none =>
      simp only [dninD, hk] at h3
      cases h3
    | some key =>
      simp only [dninD, hk] at h3
      cases h3
      obtain ⟨p, ws, rfl, ha, ra⟩ := h2
      refine ⟨p, valV ws key, rfl, .inl ⟨ws, key, ha, keyD_rep hk h1, rfl⟩, ?_⟩
      rcases repK_get (k := key) ra with ⟨n1, n2⟩ | ⟨d, v, e1, e2, e3⟩
      · rw [n2]
        exact k _ (by simp only [n1]; rfl)
      · rw [e2]
        exact k _ (by simp only [e1]; rfl)
  | _ => cases d <;> cases h3
theorem de_dget (hu : X.A.units + 1 < cLine) (ha : DB X W a fa) (hb : DB X W b fb) (hs : NoSl b := by exact fun _ _ => rfl) : DE X W (.Subscript a b pos) (eBin dgetD fa fb) := by
  obtain ⟨ta, pa, ea⟩ := ha.ex
  obtain ⟨tb, pb, eb⟩ := hb.ex
  exact ⟨_, pe_dget hu pa pb hs, bin_ent ea eb (opV_hr ov_dget)⟩
/-! comparisons: as values and as tests -/
end
structure DC (X : Cx) (W : WX) (op : CmpOp) (a b : Expr) (f : En → Res (D × En)) : Prop where
  ex : ∃ t, PC X op a b t ∧ Ent X.K X.mg W (rE X.K X.mg) t f
theorem PC.or {X : Cx} {op : CmpOp} {a b : Expr} {t u : TE} (h : PC X op a b t) (k : PC X op a b u) : PC X op a b (fun σ H Q => t σ H Q ∨ u σ H Q) := ⟨fun pins s σ H Q I z => z.elim (h.run pins s σ H Q I) (k.run pins s σ H Q I)⟩
section
variable {X : Cx} {W : WX} {a b : Expr} {pos : Pos} {fa fb : En → Res (BV × En)} {op : CmpOp} {f g : En → Res (D × En)}
theorem DC.alt (h : DC X W op a b f) (k : DC X W op a b g) : DC X W op a b (eAlt f g) := by
  obtain ⟨t, hp, he⟩ := h.ex
  obtain ⟨u, kp, ke⟩ := k.ex
  exact ⟨_, PC.or hp kp, ent_or he ke⟩
theorem DC.de (h : DC X W op a b f) (hm : behindInMarks op b = false := by first | exact nomark _ | rfl) : DE X W (.Compare a [op] [b] pos) f := by
  obtain ⟨t, hp, he⟩ := h.ex
  exact ⟨_, pe_cmp hp hm, he⟩
theorem DC.dt (h : DC X W op a b f) (hm : behindInMarks op b = false := by first | exact nomark _ | rfl) : DT X W (.Compare a [op] [b] pos) (tOfE f) := by
  obtain ⟨t, hp, he⟩ := h.ex
  exact ⟨_, pt_cmp hp hm, tB_ent he⟩
theorem dc_op {rr : R2} {gg : D → D → Option D} (ho : OpR X (compareOp op) rr) (hv : OpV X rr gg) (ha : DB X W a fa) (hb : DB X W b fb) : DC X W op a b (eBin gg fa fb) := by
  obtain ⟨ta, pa, ea⟩ := ha.ex
  obtain ⟨tb, pb, eb⟩ := hb.ex
  refine ⟨tOp rr ta tb, ⟨fun pins s σ H Q I h => ?_⟩, bin_ent ea eb (opV_hr hv)⟩
  exact bin pa pb I h fun v u s2 x y H2 I2 rx ry q => ho pins s2 σ H2 x y v u Q I2 rx ry q
theorem dc_din (hu : X.A.units + 1 < cLine) (ha : DB X W a fa) (hb : DB X W b fb) : DC X W .In a b (eBin dinD fa fb) := by
  obtain ⟨ta, pa, ea⟩ := ha.ex
  obtain ⟨tb, pb, eb⟩ := hb.ex
  exact ⟨_, pc_din hu pa pb, bin_ent ea eb (opV_hr ov_din)⟩
theorem dc_dnin (hu : X.A.units + 1 < cLine) (ha : DB X W a fa) (hb : DB X W b fb) : DC X W .NotIn a b (eBin dninD fa fb) := by
  obtain ⟨ta, pa, ea⟩ := ha.ex
  obtain ⟨tb, pb, eb⟩ := hb.ex
  exact ⟨_, pc_dnotin hu pa pb, bin_ent ea eb (opV_hr ov_dnin)⟩
theorem de_chain {c : Expr} {op' : CmpOp} {rr rr' : R2} {gg gg' : D → D → Option D} {fc : En → Res (BV × En)} (ho : OpR X (compareOp op) rr) (hv : OpV X rr gg) (ho' : OpR X (compareOp op') rr') (hv' : OpV X rr' gg') (ha : DB X W a fa) (hb : DB X W b fb) (hc : DB X W c fc)
    (hm : lastMarks [op, op'] [b, c] = false := by with_unfolding_all rfl) : DE X W (.Compare a [op, op'] [b, c] pos) (eChain gg gg' fa fb fc) := by
  obtain ⟨ta, pa, ea⟩ := ha.ex
  obtain ⟨tb, pb, eb⟩ := hb.ex
  obtain ⟨tc, pc, ec⟩ := hc.ex
  exact ⟨_, pe_chain ho ho' pa pb pc hm, chain_ent ea eb ec hv hv'⟩
theorem dt_chain {c : Expr} {op' : CmpOp} {rr rr' : R2} {gg gg' : D → D → Option D} {fc : En → Res (BV × En)} (ho : OpR X (compareOp op) rr) (hv : OpV X rr gg) (ho' : OpR X (compareOp op') rr') (hv' : OpV X rr' gg') (ha : DB X W a fa) (hb : DB X W b fb) (hc : DB X W c fc)
    (hm : lastMarks [op, op'] [b, c] = false := by with_unfolding_all rfl) : DT X W (.Compare a [op, op'] [b, c] pos) (tOfE (eChain gg gg' fa fb fc)) := by
  obtain ⟨ta, pa, ea⟩ := ha.ex
  obtain ⟨tb, pb, eb⟩ := hb.ex
  obtain ⟨tc, pc, ec⟩ := hc.ex
  exact ⟨_, pt_chain ho ho' pa pb pc hm, tB_ent (chain_ent ea eb ec hv hv')⟩
/-! {} -/
def eDict0 : En → Res (D × En) := fun r => .ok (.dk [], r)
theorem dn_dict0 : DN X W (.Dict [] [] pos) eDict0 := ⟨_, pe_dnewK, fun B F H r σ Q R p pa hpa => p _ F _ (R.newO hpa) (Same.refl F) ⟨pa, rfl, R.fh.free hpa, (R.new_ne hpa).1, (R.new_ne hpa).2, R.loose_new hpa, [], upd_same, rfl⟩⟩
/-! d[k] = e, d in a slot -/
def sDPutD (i : Nat) (fk fv : En → Res (D × En)) : En → SR := fun r => sBind (fv r) fun p => if isMine p.2 i = true then sBind (fk p.2) fun q => atMineS q.2 i fun s => match s.d with
  | .dk kvs => (match keyD q.1 with
    | some k => if kvs.length < 100000 then .nx (q.2.set i (some (s.put (.dk (putKD kvs k p.1))))) else .bad
    | none => .bad)
  | _ => .bad else .bad
theorem ds_dput {y : Str} {i : Nat} {k v : Expr} {q pos' : Pos} {fk fv : En → Res (D × En)} (hu : X.A.units + 1 < cLine) (hk : DE X W k fk) (hv : DE X W v fv) (hN : X.N[i]? = some y := by rfl) (hvv : Vis X.env.scope y := by first | exact Or.inl rfl | exact Or.inr (Or.inl rfl) | exact Or.inr (Or.inr rfl))
    (hyd : (y == ("__debug__" : Str)) = false := by decide) (hcd : (y == ("__classdict__" : Str)) = false := by decide) (hs : swapsWith v (some (.Subscript (.Name y q) k pos')) pos.line X.env = pure false := by rfl) : DS X W (.Assign [.Subscript (.Name y q) k pos'] v pos) (sDPutD i fk fv) := by
  obtain ⟨tk, pk, ek⟩ := hk.ex
  obtain ⟨tv, pv, ev⟩ := hv.ex
  refine ⟨_, ps_dput hu (pe_var hN hvv hyd hcd) pk pv hs, fun B F H r σ Z R p => ev.toS R p fun d r1 v F1 H1 R1 s1 x1 p1 => ?_⟩
  by_cases hm0 : isMine r1 i = true
  · simp only [if_pos hm0] at p1
    obtain ⟨s0, hs0, m0⟩ := isMine_ok hm0
    obtain ⟨pa, e0, _⟩ := R1.mine_at hs0 m0
    refine ⟨_, e0, ek.toS R1 p1 fun kd r2 y F2 H2 R2 s2 x2 p2 => ?_⟩
    rcases atMineS_cases r2 i (fun s => match s.d with
      | .dk kvs => (match keyD kd with
        | some k => if kvs.length < 100000 then .nx (r2.set i (some (s.put (.dk (putKD kvs k d))))) else .bad
        | none => .bad)
      | _ => .bad) with z | ⟨s, hs, m, z⟩
    · simp only [z] at p2
      exact p2.elim
    · simp only [z] at p2
      obtain ⟨pa', e1, ho, hFp⟩ := R2.mine_at hs m
      rw [e0] at e1
      cases e1
      cases hd : s.d with
      | dk kvs =>
        simp only [hd] at p2
        rw [hd] at ho
        cases hkd : keyD kd with
        | some key =>
          simp only [hkd] at p2
          by_cases hc : kvs.length < 100000
          · simp only [if_pos hc] at p2
            obtain ⟨ws, hH, hr⟩ := ho
            have ey : y = kV key := keyD_rep hkd (vw_of R2.fh kd y x2)
            refine ⟨pa, _, rfl, .inl ⟨ws, key, hH, ey, sl100k (by rw [repK_len hr]; exact hc), rfl⟩, ?_⟩
            exact p2 σ F2 _ (R2.put hs m e0 ⟨_, upd_same, repK_put (rep_mono s2 _ _ x1) hr⟩) (Same.refl F2)
          · simp only [if_neg hc] at p2
            exact p2.elim
        | none =>
          simp only [hkd] at p2
          exact p2.elim
      | _ =>
        simp only [hd] at p2
        exact p2.elim
  · simp only [if_neg hm0] at p1
    exact p1.elim
/-! divmod, repr of truths -/
def divmodD : D → D → Option D
  | .int a, .int b => if 0 < b ∧ b < 1073741824 then some (.tup [.int (a / b), .int (a % b)]) else none
  | _, _ => none
theorem de_divmod {p : Pos} (hg : Gl X "divmod") (hm : X.mg "divmod" = none) (hb : bootBuiltins "divmod" = some (.builtin "divmod")) (ha : DB X W a fa) (hb2 : DB X W b fb)
    (hst : starEach [a, b] X.env = (false, eval a X.env) :: starEach [b] X.env := by rfl) (hst2 : starEach [b] X.env = (false, eval b X.env) :: starEach [] X.env := by rfl) : DE X W (.Call (.Name "divmod" p) [a, b] [] pos) (eBin divmodD fa fb) := by
  obtain ⟨t, hp, he⟩ := ha.ex
  obtain ⟨t2, hp2, he2⟩ := hb2.ex
  refine ⟨_, pe_callB call_divmod hg hm hb (pa_cons hp (pa_cons hp2 pa_nil hst2) hst) (by decide) (by decide) hst (by rw [hst2]; rfl), bin_ent (rr := fun v u H Q => ∃ i j, [v, u] = [.int i, .int j] ∧ CDiv i j ∧ ∀ p, H p = none → Q (.ref p) (upd H p (.tup [.int (i / j), .int (i % j)]))) he he2 ?_⟩
  intro B F H r σ v u x y z Q R h1 h2 h3 p
  unfold divmodD at h3
  split at h3
  · split at h3
    · rename_i hc
      cases h3
      cases h1
      cases h2
      refine ⟨_, _, rfl, hc, fun pa hpa => ?_⟩
      have fp := R.fh.free hpa
      exact p _ _ _ (R.newF hpa) (same_new fp) ⟨pa, _, rfl, SqT.of upd_same, _, _, rfl, by simp [rep], _, _, rfl, by simp [rep], rfl⟩
    · cases h3
  · cases h3
def reprB : D → Option D
  | .bl b => some (.str (if b then "True" else "False"))
  | _ => none
theorem call_reprB : CallR X (.builtin "repr") (fun xs H Q => ∃ b, xs = [.bl b] ∧ Q (.str (if b then "True" else "False")) H) := by
  intro pins s σ H xs us Q I r h
  obtain ⟨b, rfl, q⟩ := h
  obtain ⟨u, rfl, rx⟩ := vals1 r
  cases rx
  exact PySem.P.repr_of_bool ⟨.str _, H, I.tok _, ⟨_, rfl⟩, q⟩
theorem uv_reprB : UnV X (fun v H Q => ∃ b, [v] = [.bl b] ∧ Q (.str (if b then "True" else "False")) H) reprB := by
  intro F H v d z Q s h1 h3 k
  unfold reprB at h3
  split at h3
  · cases h3
    cases h1
    exact ⟨_, rfl, k _ rfl⟩
  · cases h3
end
end Dl

set_option Elab.async false
set_option linter.all false
set_option maxRecDepth 100000
set_option maxHeartbeats 4000000
namespace Dl
open PySem L2

/-! ### list(d.items()), dict(pairs) -/
def keyE : Key → D
  | .inl i => .int i
  | .inr x => .str x
def itemsL : D → Option D
  | .dk kvs => some (.lst (kvs.map fun kv => .tup [keyE kv.1, kv.2]))
  | _ => none
def pairsOf : List D → Option (List (Key × D))
  | [] => some []
  | .tup [k, v] :: ds => (keyD k).bind fun k => (pairsOf ds).map ((k, v) :: ·)
  | _ => none
def mergeKD (kvs more : List (Key × D)) : List (Key × D) := more.foldl (fun acc kv => putKD acc kv.1 kv.2) kvs
def dictP : D → Option D
  | .lst ds => (pairsOf ds).map fun ps => .dk (mergeKD [] ps)
  | _ => none
def rItemsR : V → Hp → VK → Prop := fun x H Q => ∃ (d : Addr) (kvs : List (Key × V)), x = .ref d ∧ Rd H d (.dK kvs) ∧
  ∀ (H' : Hp) (p : Addr) (ts : List Addr), (∀ b o, H b = some o → H' b = some o) → H p = none → (∀ t ∈ ts, H t = none) → p ∉ ts → H' p = some (.lst (ts.map V.ref)) → Paired (fun (t : Addr) (q : Key × V) => H' t = some (.tup [kV q.1, q.2])) ts kvs → Q (.ref p) H'
section
variable {X : Cx} {W : WX} {e : Expr} {te : TE} {p apos cpos pos : Pos} {fa : En → Res (BV × En)}
theorem pe_listItemsR (hc : X.calm = true) (he : PE X e te) (hg : Gl X "list") (hm : X.mg "list" = none) (hv : bootBuiltins "list" = some (.type "list")) (hbase : attributeBase e "items" X.env (eval e X.env) = eval e X.env := by rfl) (hline : (apos.endLine == cpos.line) = true := by rfl)
    (hs : starEach [.Call (.Attribute e "items" apos) [] [] cpos] X.env = (false, eval (.Call (.Attribute e "items" apos) [] [] cpos) X.env) :: starEach [] X.env := by rfl) :
    PE X (.Call (.Name "list" p) [.Call (.Attribute e "items" apos) [] [] cpos] [] pos) (tUn rItemsR te) := by
  refine ⟨fun pins s σ H Q I hq => ?_⟩
  refine wpAny_Call_Name_kw (ld_blt I hg hm hv ?_)
  refine PyProof.Rows.callWith_type1 ?_ hs rfl
  rw [hs]
  show wpAny _ _ (spliced ((false, eval (.Call (.Attribute e "items" apos) [] [] cpos) X.env) :: backTo pos (starEach [] X.env))) _ _ s
  refine Calls.spliced_cons ?_
  refine wpAny_Call_method (T := "dict") (id := "dict.items") hbase rfl hline F.plainAttrs_dict F.slot_dict_items F.type_dict_items (thn (he.run pins s σ H _ I hq) fun u s1 ⟨x, H1, I1, rx, d, kvs, ex, hd, q⟩ => ?_)
  subst ex
  obtain rfl : u = Value.ref d := rx
  obtain ⟨hz, hs0, vs, kv, hdo⟩ := dk_rd I1.hok hd
  obtain ⟨ep, hat⟩ := hdo.dictAt
  have lk : kvs.length = vs.length := Paired.length kv
  have I2 : Inv X pins σ H1 { s1 with heap := s1.heap.push { cls := .type "dict_items", data := .fields #[.ref d] } } := I1.kept (t' := s1.toks) fun b ob q => Heap.get?_push_of_some _ q
  refine ⟨hdo.typeIs, hdo.mapOf.noDict, ?_⟩
  show wpAny _ _ (callWith cpos (.builtin "dict.items") [.ref d] [] []) _ X.xe s1
  refine method_meetsIn F.slot_dict_items F.entry_dict_items rfl (PySem.evalArgs_none ⟨rfl, hdo.typeIs, F.args_dict_items_1 _, _, meets_dict_items (mixKind X.prog X.w) d hs0, ⟨vs, hdo⟩, ?_⟩)
  refine Calls.spliced_nil ?_
  refine PySem.W.kdx_call (knd := mixKind X.prog X.w) (kvs := vs) (ep := ep) (I1.ok.hd hc) ⟨_, Heap.get?_push_size _ rfl, rfl, rfl⟩ (hat.push _) (by omega) fun h' tk acc c as hk hS hl hG hacc => ?_
  obtain ⟨H', k1, k2, k3, k4, k5, k6, J⟩ := LiI.items_laid (tk := tk) I2 hz kv hk hS hl hG hacc
  exact ⟨.ref _, H', J, rfl, q H' _ as k1 k2 k3 k4 k5 k6⟩
theorem keyE_rep {K : PySem.W.Frag} {mg : Str → Option Value} {F : Hp} (k : Key) : rep K mg F (keyE k) (kV k) := by
  cases k <;> simp [keyE, kV, rep]
theorem items_rep {K : PySem.W.Frag} {mg : Str → Option Value} {F F' : Hp} (s : Same F F') : ∀ {kvs : List (Key × D)} {ws : List (Key × V)} {ts : List Addr}, repK K mg F kvs ws → Paired (fun (t : Addr) (q : Key × V) => F' t = some (.tup [kV q.1, q.2])) ts ws →
    repL K mg F' (kvs.map fun kv => .tup [keyE kv.1, kv.2]) (ts.map V.ref)
  | [], _, _, h, hp => by
    cases h
    cases hp
    rfl
  | (k, d) :: kvs, _, _, h, hp => by
    obtain ⟨w, ws, rfl, h1, h2⟩ := h
    cases hp with
    | cons a b =>
      rename_i t ts
      exact ⟨.ref t, ts.map V.ref, rfl, ⟨t, _, rfl, SqT.of a, _, _, rfl, keyE_rep k, _, _, rfl, rep_mono s _ _ h1, rfl⟩, items_rep s h2 b⟩
theorem paired_mem {α β : Type} {P : α → β → Prop} : ∀ {xs : List α} {ys : List β}, Paired P xs ys → ∀ x ∈ xs, ∃ y, P x y
  | _, _, .nil, _, h => by cases h
  | _, _, .cons a b, x, h => by
    rcases List.mem_cons.mp h with rfl | h
    · exact ⟨_, a⟩
    · exact paired_mem b x h
theorem paired_imp {α β : Type} {P Q : α → β → Prop} : ∀ {xs : List α} {ys : List β}, Paired P xs ys → (∀ x ∈ xs, ∀ y, P x y → Q x y) → Paired Q xs ys
  | _, _, .nil, _ => .nil
  | _, _, .cons a b, h => .cons (h _ (by simp) _ a) (paired_imp b fun x hx => h x (List.mem_cons_of_mem _ hx))
theorem dn_items (hc : X.calm = true) (he : DB X W e fa) (hg : Gl X "list") (hm : X.mg "list" = none) (hv : bootBuiltins "list" = some (.type "list")) (hbase : attributeBase e "items" X.env (eval e X.env) = eval e X.env := by rfl) (hline : (apos.endLine == cpos.line) = true := by rfl)
    (hs : starEach [.Call (.Attribute e "items" apos) [] [] cpos] X.env = (false, eval (.Call (.Attribute e "items" apos) [] [] cpos) X.env) :: starEach [] X.env := by rfl) :
    DN X W (.Call (.Name "list" p) [.Call (.Attribute e "items" apos) [] [] cpos] [] pos) (eUn itemsL fa) := by
  obtain ⟨t, hp, hh⟩ := he.ex
  refine ⟨_, pe_listItemsR hc hp hg hm hv hbase hline hs, un_ent hh ?_⟩
  intro B F H r σ v x z Q R h1 h3 p
  cases x with
  | dk kvs =>
    cases h3
    obtain ⟨a, ws, rfl, ha, ra⟩ := h1
    refine ⟨a, ws, rfl, ha, fun H' pa ts k1 k2 k3 k4 k5 k6 => ?_⟩
    classical
    let F' : Hp := fun b => if b ∈ ts then H' b else F b
    have fF : ∀ b, b ∉ ts → F' b = F b := fun b hb => if_neg hb
    have fT : ∀ b, b ∈ ts → F' b = H' b := fun b hb => if_pos hb
    have s1 : Same F F' := fun b o hb => by
      rw [fF b fun z => by rw [R.fh.free (k3 b z)] at hb; cases hb]
      exact hb
    have s2 : Same F' H' := fun b o hb => by
      by_cases q : b ∈ ts
      · rw [fT b q] at hb
        exact hb
      · rw [fF b q] at hb
        exact k1 _ _ (R.fh _ _ hb)
    have R2 : Rel X.K X.mg B F' H' r σ := R.grow k1 s1 s2 fun b h1 h2 => by
      rw [fF b fun z => h2 (k3 b z)]
      exact h1
    refine p _ F' H' R2 s1 ⟨pa, rfl, ?_, (R.new_ne k2).1, (R.new_ne k2).2, R.loose_grow k1 (R.loose_new0 k2), _, k5, ?_⟩
    · rw [fF pa k4]
      exact R.fh.free k2
    · exact items_rep s1 ra (paired_imp k6 fun t ht q hq => by rw [fT t ht]; exact hq)
  | _ => cases h3
theorem pairs_rep {K : PySem.W.Frag} {mg : Str → Option Value} {F H : Hp} (s : Same F H) : ∀ {ds : List D} {xs : List V} {ps : List (Key × D)}, repL K mg F ds xs → pairsOf ds = some ps →
    ∃ (as : List Addr) (ws : List (Key × V)), xs = as.map V.ref ∧ Paired (fun p kv => SqT K H p [kV kv.1, kv.2]) as ws ∧ repK K mg F ps ws
  | [], _, _, h, e => by
    cases h
    cases e
    exact ⟨[], [], rfl, .nil, rfl⟩
  | d :: ds, _, ps, h, e => by
    obtain ⟨w, ws, rfl, h1, h2⟩ := h
    unfold pairsOf at e
    split at e
    · rename_i heq
      cases heq
    · rename_i k v ds' heq
      cases heq
      cases hk : keyD k with
      | none =>
        rw [hk] at e
        cases e
      | some key =>
        rw [hk] at e
        cases hq : pairsOf ds with
        | none =>
          rw [hq] at e
          cases e
        | some qs =>
          rw [hq] at e
          cases e
          obtain ⟨as, wz, rfl, hp, hr⟩ := pairs_rep s h2 hq
          obtain ⟨a, xs, rfl, ha, k1, xs1, rfl, rk, v1, xs2, rfl, rv, hn⟩ := h1
          cases (show xs2 = [] from hn)
          have ek : k1 = kV key := keyD_rep (mg := mg) hk (vw_of (Same.refl F) _ _ rk)
          subst ek
          exact ⟨a :: as, (key, v1) :: wz, rfl, .cons (sqT_mono s ha) hp, v1, wz, rfl, rv, hr⟩
    · cases e
theorem repK_merge {K : PySem.W.Frag} {mg : Str → Option Value} {F : Hp} : ∀ {ms : List (Key × D)} {ws : List (Key × V)} {kvs : List (Key × D)} {vs : List (Key × V)}, repK K mg F ms ws → repK K mg F kvs vs → repK K mg F (mergeKD kvs ms) (mergeK vs ws)
  | [], _, _, _, h, h' => by
    cases h
    exact h'
  | (k, d) :: ms, _, kvs, vs, h, h' => by
    obtain ⟨w, ws, rfl, h1, h2⟩ := h
    exact repK_merge (kvs := putKD kvs k d) (vs := putK vs k w) h2 (repK_put h1 h')
theorem un_dictP : UnN X (fun v H Q => ∃ (a : Addr) (ps : List Addr) (kvs : List (Key × V)), [v] = [.ref a] ∧ SqL X.K H a (ps.map V.ref) ∧ Paired (fun p kv => SqT X.K H p [kV kv.1, kv.2]) ps kvs ∧ ∀ p, H p = none → Q (.ref p) (upd H p (.dK (mergeK [] kvs)))) dictP := by
  intro F H v d z Q s h1 h3 k
  cases d with
  | lst ds =>
    unfold dictP at h3
    cases hq : pairsOf ds with
    | none =>
      simp only [hq] at h3
      cases h3
    | some qs =>
      simp only [hq] at h3
      cases h3
      obtain ⟨a, xs, rfl, ha, ra⟩ := h1
      obtain ⟨as, ws, rfl, hp, hr⟩ := pairs_rep s ra hq
      exact ⟨a, as, ws, rfl, SqL.of ha, hp, fun p hp' => k p _ hp' ⟨_, upd_same, repK_merge hr rfl⟩⟩
  | _ => cases h3
end
/-! ### x = [..] on one line -/
section
variable {X : Cx} {W : WX} {pos spos py : Pos} {y : Str} {i : Nat} {elt tg iter : Expr} {ifs : List Expr} {scope : Scope} {own : List (Str × Nat)} {s : En → Res (List D × En)} {g : D → En → Res En} {t : En → Res (Bool × En)} {f : En → Res (D × En)}
theorem lc_lst {s : En → Res (List D × En)} {g : D → En → Res En} {t : En → Res (Bool × En)} {e : En → Res (D × En)} {vs : List Nat} {r r' : En} {d : D} (h : eLc s g t e vs r = .ok (d, r')) : ∃ ds, d = .lst ds := by
  unfold eLc at h
  cases q : s r with
  | ok p =>
    rw [q, bind_ok] at h
    split at h
    · cases q2 : noX (lcLoop g t e vs p.1 (wipeE p.2 vs) []) with
      | ok z =>
        rw [q2, bind_ok] at h
        cases h
        exact ⟨_, rfl⟩
      | er c fs r2 =>
        rw [q2] at h
        cases h
      | bad =>
        rw [q2] at h
        cases h
    · cases h
  | er c fs r2 =>
    rw [q] at h
    cases h
  | bad =>
    rw [q] at h
    cases h
theorem ent_nE {K : PySem.W.Frag} {mg : Str → Option Value} {tt : TE} {h : En → Res (D × En)} (hl : ∀ r d r', h r = .ok (d, r') → ∃ ds, d = .lst ds) (he : Ent K mg W (rN K mg) tt h) : Ent K mg W (rE K mg) tt h := by
  intro B F H r σ Q R p
  refine he B F H r σ Q R ?_
  cases q : h r with
  | ok a =>
    obtain ⟨d, r'⟩ := a
    rw [q] at p
    obtain ⟨ds, rfl⟩ := hl _ _ _ q
    rintro b F' H' R' s ⟨pa, rfl, h1, h2, h3, h4, h5⟩
    exact p _ _ H' (R'.freeze h1 h2 h4) (s.trans (frzAt_same h1)) (rep_frz h1 h5)
  | er c fs r' =>
    rw [q] at p
    exact p
  | bad =>
    rw [q] at p
    exact p
theorem ds_setLc (hc : X.calm = true) (hN : X.N.Nodup) (hi : DI X W tg iter s) (ok : BlkOk X.N X.env.scope scope own)
    (hg : ∀ (s : Shared) (H : Hp) (C : Addr) (cl : List (Str × Addr)) (fp : List Addr), DG (X.blk s H scope (compEnvC scope cl C X.env) fp) W0 tg (own.map (·.2)) g)
    (ht : ∀ (s : Shared) (H : Hp) (C : Addr) (cl : List (Str × Addr)) (fp : List Addr), DTs (X.blk s H scope (compEnvC scope cl C X.env) fp) W0 ifs t)
    (he : ∀ (s : Shared) (H : Hp) (C : Addr) (cl : List (Str × Addr)) (fp : List Addr), DE (X.blk s H scope (compEnvC scope cl C X.env) fp) W0 elt f)
    (hsw : swapsWith (.ListComp elt [⟨tg, iter, ifs, 0⟩] scope pos) (some (.Name y py)) spos.line X.env = pure true) (hy : X.N[i]? = some y := by rfl) (hyl : X.env.scope.names.lookup y = some .local := by rfl) (hs : ∀ x, foldedSetIterable iter X.env x = pure x := by intro _; rfl) :
    DS X W (.Assign [.Name y py] (.ListComp elt [⟨tg, iter, ifs, 0⟩] scope pos) spos) (sSet i (eLc s g t f (own.map (·.2)))) := by
  obtain ⟨ti, pi, ei⟩ := hi.ex
  refine ⟨_, ps_setLc (g := tOfG X.K X.mg W0 (own.map (·.2)) g) (tt := tOf X.K X.mg W0 rT t) (te := tOf X.K X.mg W0 (rE X.K X.mg) f) hc hN hy hyl hsw pi ok (fun a b c d e => (hg a b c d e).can) (fun a b c d e => (ht a b c d e).can) (fun a b c d e => (he a b c d e).can) hs, fun B F H r σ Z R p => ?_⟩
  exact (ent_nE (fun r d r' z => lc_lst z) (lc_ent ei)).toS R p fun d r' v F' H' R' s x q => q _ F' H' (R'.setF x) (Same.refl F')
theorem ds_ownLc (hc : X.calm = true) (hN : X.N.Nodup) (hi : DI X W tg iter s) (ok : BlkOk X.N X.env.scope scope own)
    (hg : ∀ (s : Shared) (H : Hp) (C : Addr) (cl : List (Str × Addr)) (fp : List Addr), DG (X.blk s H scope (compEnvC scope cl C X.env) fp) W0 tg (own.map (·.2)) g)
    (ht : ∀ (s : Shared) (H : Hp) (C : Addr) (cl : List (Str × Addr)) (fp : List Addr), DTs (X.blk s H scope (compEnvC scope cl C X.env) fp) W0 ifs t)
    (he : ∀ (s : Shared) (H : Hp) (C : Addr) (cl : List (Str × Addr)) (fp : List Addr), DE (X.blk s H scope (compEnvC scope cl C X.env) fp) W0 elt f)
    (hsw : swapsWith (.ListComp elt [⟨tg, iter, ifs, 0⟩] scope pos) (some (.Name y py)) spos.line X.env = pure true) (hy : X.N[i]? = some y := by rfl) (hyl : X.env.scope.names.lookup y = some .local := by rfl) (hs : ∀ x, foldedSetIterable iter X.env x = pure x := by intro _; rfl) :
    DS X W (.Assign [.Name y py] (.ListComp elt [⟨tg, iter, ifs, 0⟩] scope pos) spos) (sOwn i (eLc s g t f (own.map (·.2)))) := by
  obtain ⟨ti, pi, ei⟩ := hi.ex
  refine ⟨_, ps_setLc (g := tOfG X.K X.mg W0 (own.map (·.2)) g) (tt := tOf X.K X.mg W0 rT t) (te := tOf X.K X.mg W0 (rE X.K X.mg) f) hc hN hy hyl hsw pi ok (fun a b c d e => (hg a b c d e).can) (fun a b c d e => (ht a b c d e).can) (fun a b c d e => (he a b c d e).can) hs, fun B F H r σ Z R p => ?_⟩
  refine (lc_ent ei).toS R p fun d r' v F' H' R' s x q => ?_
  obtain ⟨pa, rfl, h1, h2, h3, h4, h5⟩ := x
  exact q _ F' H' (R'.setS h1 h2 h3 h4 h5) (Same.refl F')
end
end Dl

set_option Elab.async false
set_option linter.all false
set_option maxRecDepth 100000
set_option maxHeartbeats 4000000
namespace Dl
open PySem L2

/-! ### own == and != -/
section
variable {prog : Program} {w : World} {A : Around} {E : Value → Shared → Prop} {s : Shared} {K : PySem.W.Frag} {x C L f : Addr} {h₀ : Heap} {m : Str → Option Value} {ox : Obj} {od : Option Obj} {b tb : Value}
theorem call_objNe {Q : Value → Shared → Prop} (hu : A.units + 1 < cLine) (X : K.In s.heap) (I : PySem.W.InstAt s.heap x ox C od) (hm : PySem.W.mroIn K C (.type "object") = some true) (hs : PySem.W.findIn K (.ref C) "__eq__" = some (some (.ref f))) (hf : PySem.W.isFn K (.ref f) = true)
    (h : wpAny (model prog w) A.in1 (call (.ref f) [.ref x, b]) (fun v s' => ∃ c, v = .bool c ∧ Q (.bool (!c)) s') E s) : wpAny (model prog w) A (call (.builtin "object.__ne__") [.ref x, b]) Q E s := by
  obtain ⟨hh, g, dr, t, os⟩ := s
  refine wpAny_call (codeAny_call_builtin PySem.F.cmp_object.ne.plain PySem.F.cmpEntry_ne (PySem.W.check_slot PySem.F.cmpKind_ne PySem.F.cmpSplit_ne (I.type.andThen (PySem.W.looks_mroIn X hm)) (PySem.F.cmpArgs_ne _ _) ?_))
  unfold Builtin.«object.__ne__»
  repeat (first
    | with_reducible refine wpAny_cRoomFor hu ?_
    | (refine wpAny_bind (m := callSpecialIfBound? (.ref x) (Str.ofString "__eq__") [b])
        (PySem.W.ifBound_K X I hs hf (wpAny_mono h (fun r s' hr => by
          obtain ⟨c, rfl, hq⟩ := hr
          repeat (first | exact hq | exact wpAny_pure hq | exact wpAny_truthy_bool hq | (refine wpAny_bind (m := truthy (.bool _)) (wpAny_truthy_bool ?_)) | wp_step)) fun _ _ e => e)))
    | wp_step)
theorem ne_own {Q : Value → Shared → Prop} (hu : A.units + 1 < cLine) (F : PyProof.Rows.Fr h₀ L s.heap m) (X₀ : K.In h₀) (I : PySem.W.InstAt s.heap x ox C od) (hb : PySem.W.Looks (model prog w) s.heap (typeOf b) tb) (hn : PySem.W.notFirst K C tb = true)
    (hne : PySem.W.findIn K (.ref C) "__ne__" = some (some (.builtin "object.__ne__"))) (hm : PySem.W.mroIn K C (.type "object") = some true) (hs : PySem.W.findIn K (.ref C) "__eq__" = some (some (.ref f))) (hf : PySem.W.isFn K (.ref f) = true)
    (h : wpAny (model prog w) A.in1 (call (.ref f) [.ref x, b]) (fun v s' => ∃ c, v = .bool c ∧ Q (.bool (!c)) s') E s) : wpAny (model prog w) A (richCompare .NotEq (.ref x) b) Q E s := by
  have X := X₀.keeps F.keep
  have one : wpAny (model prog w) A (tryCompare (.ref x) "__ne__" b) (fun r s' => ∃ v, r = some v ∧ Q v s') E s := by
    unfold tryCompare
    refine wpAny_bind ?_
    simp only [callSpecialIfBound?, bindSpecialIfBound?]
    refine wpAny_holding (wpAny_bind (wpAny_bind (wpAny_bind (I.type.here ((PySem.W.looks_findIn X hne).here ?_)))))
    have fin : wpAny (model prog w) A (call (.builtin "object.__ne__") ([.ref x] ++ [b]) >>= fun v => pure (some v)) (fun r s' => wpAny (model prog w) A (match r with
        | some .notImplemented | none => pure none
        | some v => pure (some v)) (fun r s' => ∃ v, r = some v ∧ Q v s') E s') E s := by
      refine wpAny_bind (call_objNe (Q := fun v s' => wpAny (model prog w) A (pure (some v)) _ E s') hu X I hm hs hf (wpAny_mono h (fun v s' hv => ?_) fun _ _ e => e))
      obtain ⟨c, rfl, hq⟩ := hv
      exact ⟨c, rfl, wpAny_pure (wpAny_pure ⟨_, rfl, hq⟩)⟩
    have hbind : bindSpecial (.builtin "object.__ne__") (.ref x) = pure (.builtin "object.__ne__", [.ref x]) := PySem.F.cmp_object.ne.bind _
    refine wpAny_bind (wpAny_askSetting (wpAny_ite ?_))
    split
    · rw [hbind]
      exact wpAny_bind (wpAny_pure (wpAny_pure fin))
    · rw [hbind]
      exact wpAny_tryCatch (wpAny_bind (wpAny_pure (wpAny_pure fin)))
  unfold richCompare
  simp only [PySem.oneThing_ref]
  refine wpAny_holding (wpAny_bind (wpAny_cRoomFor (Nat.lt_of_succ_lt hu) ?_))
  refine wpAny_bind (I.type.here (wpAny_bind (hb.here ?_)))
  split
  · rename_i q
    have e : PySem.W.subIn K tb (.ref C) = some false := by
      rcases Bool.or_eq_true_iff.mp hn with e | e
      · rw [beq_iff_eq.mp e] at q; simp at q
      · exact beq_iff_eq.mp e
    refine wpAny_bind ((PySem.W.looks_subIn X e).here ?_)
    simp only [Bool.false_eq_true, if_false]
    refine wpAny_bind (wpAny_mono one (fun r s' z => ?_) fun _ _ e => e)
    obtain ⟨v, rfl, hq⟩ := z
    exact wpAny_pure hq
  · refine wpAny_bind (wpAny_pure ?_)
    simp only [Bool.false_eq_true, if_false]
    refine wpAny_bind (wpAny_mono one (fun r s' z => ?_) fun _ _ e => e)
    obtain ⟨v, rfl, hq⟩ := z
    exact wpAny_pure hq
end

/-! ### operators of own classes -/
def mapR (g : D → Option D) : Res D → Res D
  | .ok d => match g d with
    | some z => .ok z
    | none => .bad
  | .er c fs r => .er c fs r
  | .bad => .bad
def toB : D → Option D
  | .bl b => some (.bl b)
  | _ => none
def toNB : D → Option D
  | .bl b => some (.bl (!b))
  | _ => none
/-- the instance is behind -/
def eOwnR (c : Str) (g : D → Option D) (den : List D → Res D) (fa fb : En → Res (D × En)) : En → Res (D × En) := fun r => (fa r).bind fun p => (fb p.2).bind fun q => match q.1 with
  | .ins c' fs => if c' = c then callR (mapR g (den [.ins c' fs, p.1])) q.2 else .bad
  | _ => .bad
/-- both are instances of the class -/
def eOwnL (c : Str) (g : D → Option D) (den : List D → Res D) (fa fb : En → Res (D × En)) : En → Res (D × En) := fun r => (fa r).bind fun p => (fb p.2).bind fun q => match p.1, q.1 with
  | .ins c' fs, .ins c2 gs => if c' = c ∧ c2 = c then callR (mapR g (den [.ins c' fs, .ins c2 gs])) q.2 else .bad
  | _, _ => .bad
section
variable {K : PySem.W.Frag} {mg : Str → Option Value} {W : WX} {B : Bg} {F H : Hp} {r : En} {σ : L2.St}
theorem callM_po {g : D → Option D} {P : V → Hp → Prop} {den0 : List D → Res D} {ds dds : List D} {vs dvs : List V} {Q : VK} (R : Rel K mg B F H r σ) (h : repL K mg F ds vs) (hd : ∀ F, repL K mg F dds dvs) (hP : ∀ d z v F' H', g d = some z → rep K mg F' d v → (∀ w, rep K mg F' z w → Q w H') → P v H')
    (p : Po K mg W B F σ (rE K mg) Q (callR (mapR g (den0 (ds ++ dds))) r)) : spD K mg den0 (vs ++ dvs) H P (WE W σ) := by
  refine ⟨F, ds ++ dds, R.fh, repL_app h (hd F), ?_⟩
  cases q : den0 (ds ++ dds) with
  | ok d =>
    rw [q] at p
    cases z : g d with
    | some z' =>
      simp only [mapR, z] at p
      exact fun v F' H' g x => hP d z' v F' H' z x fun w hw => p w F' H' (R.growN g) g.f hw
    | none =>
      simp only [mapR, z] at p
      exact p.elim
  | er c fs r' =>
    rw [q] at p
    exact fun C od F' H' m g x => p C od σ F' H' m (R.growN g) g.f x
  | bad =>
    rw [q] at p
    exact p.elim
end
section
variable {X : Cx} {W : WX} {k j : Nat} {f C : Addr} {c : Str} {a b : Expr} {pos : Pos} {fa fb : En → Res (D × En)} {den : List D → Res D}
theorem inst_of {X : Cx} {pins : List (Addr × Obj)} {σ : L2.St} {H : Hp} {s : Shared} {a C dx : Addr} {fs : List (Str × V)} (I : Inv X pins σ H s) (e : H a = some (.ins C dx fs)) : ∃ ox od, PySem.W.InstAt s.heap a ox C od := by
  obtain ⟨mA, O, _, _, _, _⟩ := ins_get I.hok e
  obtain ⟨od, J, _⟩ := O.look
  exact ⟨_, _, J⟩
theorem rep_bl {F : Hp} {b : Bool} {v : V} {K : PySem.W.Frag} {mg : Str → Option Value} (h : rep K mg F (.bl b) v) : v = .bl b := h
theorem hP_B {Q : VK} : ∀ (d z : D) (v : V) (F' H' : Hp), toB d = some z → rep X.K X.mg F' d v → (∀ w, rep X.K X.mg F' z w → Q w H') → ∃ b, v = .bl b ∧ Q (.bl b) H' := by
  intro d z v F' H' e h q
  cases d with
  | bl b => cases e; exact ⟨b, rep_bl h, q _ rfl⟩
  | _ => cases e
theorem hP_NB {Q : VK} : ∀ (d z : D) (v : V) (F' H' : Hp), toNB d = some z → rep X.K X.mg F' d v → (∀ w, rep X.K X.mg F' z w → Q w H') → ∃ b, v = .bl b ∧ Q (.bl (!b)) H' := by
  intro d z v F' H' e h q
  cases d with
  | bl b => cases e; exact ⟨b, rep_bl h, q _ rfl⟩
  | _ => cases e
theorem truthyB {u : Value} {v : V} {b : Bool} (r : RelV v u) (e : v = .bl b) : u = .bool b := by
  subst e
  exact r
theorem dc_inO (F : CalA X.prog X.w X.K X.mg X.base k f den) (tk : Takes X W) (hr : Room j X.A) (hk : k ≤ j) (hc : X.mg c = some (.ref C)) (hm : Meth X.K C "__contains__" f) (ha : DE X W a fa) (hb : DE X W b fb) : DC X W .In a b (eOwnR c toB den fa fb) := by
  obtain ⟨fd, ps, ds, dvs, dds, den0, G, hbi, hd, hdd, rfl⟩ := F.ex
  obtain ⟨ta, pa, ea⟩ := ha.ex
  obtain ⟨tb, pb, eb⟩ := hb.ex
  refine ⟨fun σ H Q => ta σ H fun x H1 => tb σ H1 fun y H2 => ∃ a dx fs, y = .ref a ∧ H2 a = some (.ins C dx fs) ∧ spD X.K X.mg den0 ([y, x] ++ dvs) H2 (fun v H3 => ∃ b, v = .bl b ∧ Q (.bl b) H3) (WE W σ), ⟨fun pins s σ H Q I h => ?_⟩, fun B F H r σ Q R p => ?_⟩
  · refine bin (f := fun v u => compareOp .In v u) pa pb I h fun v u s2 x y H2 I2 rx ry q => ?_
    obtain ⟨a, dx, fs, rfl, e, q⟩ := q
    cases (show u = Value.ref a from ry)
    obtain ⟨ox, od, J⟩ := inst_of I2 e
    obtain ⟨m, hF⟩ := I2.fr
    refine PySem.W.in_K hF I2.ok.mod.kin J hm.at_ hm.fn (wpAny_mono (run_fnSD (us := [.ref a, v]) (vs := [.ref a, x]) G (hr.mono hk) hbi hd (passAt tk σ) I2 (.cons rfl (.cons rx .nil)) q) (fun w s' z => ?_) fun _ _ e => e)
    obtain ⟨v', H', I', r', b, e', qb⟩ := z
    rw [truthyB r' e']
    exact wpAny_truthy_bool ⟨.bl _, H', I', rfl, qb⟩
  · refine ea.to R p fun d r1 v F1 H1 R1 s1 x1 p1 => eb.to R1 p1 fun d2 r2 u F2 H2 R2 s2 x2 p2 => ?_
    cases d2 with
    | ins c' fs =>
      simp only at p2
      by_cases hcc : c' = c
      · rw [if_pos hcc] at p2
        subst hcc
        obtain ⟨a, C', dx, ws, rfl, hC, hF, hrf⟩ := id x2
        rw [hc] at hC
        cases hC
        exact ⟨a, dx, ws, rfl, R2.fh _ _ hF, callM_po (ds := [_, _]) (vs := [_, _]) R2 ⟨_, _, rfl, x2, _, _, rfl, rep_mono s2 _ _ x1, rfl⟩ hdd hP_B p2⟩
      · rw [if_neg hcc] at p2
        exact p2.elim
    | _ => exact p2.elim
theorem dc_ninO (F : CalA X.prog X.w X.K X.mg X.base k f den) (tk : Takes X W) (hr : Room j X.A) (hk : k ≤ j) (hc : X.mg c = some (.ref C)) (hm : Meth X.K C "__contains__" f) (ha : DE X W a fa) (hb : DE X W b fb) : DC X W .NotIn a b (eOwnR c toNB den fa fb) := by
  obtain ⟨fd, ps, ds, dvs, dds, den0, G, hbi, hd, hdd, rfl⟩ := F.ex
  obtain ⟨ta, pa, ea⟩ := ha.ex
  obtain ⟨tb, pb, eb⟩ := hb.ex
  refine ⟨fun σ H Q => ta σ H fun x H1 => tb σ H1 fun y H2 => ∃ a dx fs, y = .ref a ∧ H2 a = some (.ins C dx fs) ∧ spD X.K X.mg den0 ([y, x] ++ dvs) H2 (fun v H3 => ∃ b, v = .bl b ∧ Q (.bl (!b)) H3) (WE W σ), ⟨fun pins s σ H Q I h => ?_⟩, fun B F H r σ Q R p => ?_⟩
  · refine bin (f := fun v u => compareOp .NotIn v u) pa pb I h fun v u s2 x y H2 I2 rx ry q => ?_
    obtain ⟨a, dx, fs, rfl, e, q⟩ := q
    cases (show u = Value.ref a from ry)
    obtain ⟨ox, od, J⟩ := inst_of I2 e
    obtain ⟨m, hF⟩ := I2.fr
    refine PySem.W.notIn_K hF I2.ok.mod.kin J hm.at_ hm.fn (wpAny_mono (run_fnSD (us := [.ref a, v]) (vs := [.ref a, x]) G (hr.mono hk) hbi hd (passAt tk σ) I2 (.cons rfl (.cons rx .nil)) q) (fun w s' z => ?_) fun _ _ e => e)
    obtain ⟨v', H', I', r', b, e', qb⟩ := z
    rw [truthyB r' e']
    exact wpAny_truthy_bool ⟨.bl _, H', I', rfl, qb⟩
  · refine ea.to R p fun d r1 v F1 H1 R1 s1 x1 p1 => eb.to R1 p1 fun d2 r2 u F2 H2 R2 s2 x2 p2 => ?_
    cases d2 with
    | ins c' fs =>
      simp only at p2
      by_cases hcc : c' = c
      · rw [if_pos hcc] at p2
        subst hcc
        obtain ⟨a, C', dx, ws, rfl, hC, hF, hrf⟩ := id x2
        rw [hc] at hC
        cases hC
        exact ⟨a, dx, ws, rfl, R2.fh _ _ hF, callM_po (ds := [_, _]) (vs := [_, _]) R2 ⟨_, _, rfl, x2, _, _, rfl, rep_mono s2 _ _ x1, rfl⟩ hdd hP_NB p2⟩
      · rw [if_neg hcc] at p2
        exact p2.elim
    | _ => exact p2.elim
theorem ownL_ent {P : VK → V → Hp → Prop} {g : D → Option D} {den0 : List D → Res D} {dds : List D} {dvs : List V} {ta tb : TE} (hc : X.mg c = some (.ref C)) (hdd : ∀ F, repL X.K X.mg F dds dvs) (hP : ∀ Q d z v F' H', g d = some z → rep X.K X.mg F' d v → (∀ w, rep X.K X.mg F' z w → Q w H') → P Q v H') (ea : Ent X.K X.mg W (rE X.K X.mg) ta fa) (eb : Ent X.K X.mg W (rE X.K X.mg) tb fb) :
    Ent X.K X.mg W (rE X.K X.mg) (fun σ H Q => ta σ H fun x H1 => tb σ H1 fun y H2 => ∃ a dx fs b dy gs, x = .ref a ∧ H2 a = some (.ins C dx fs) ∧ y = .ref b ∧ H2 b = some (.ins C dy gs) ∧ spD X.K X.mg den0 ([x, y] ++ dvs) H2 (P Q) (WE W σ)) (eOwnL c g (fun as => den0 (as ++ dds)) fa fb) := by
  intro B F H r σ Q R p
  refine ea.to R p fun d r1 v F1 H1 R1 s1 x1 p1 => eb.to R1 p1 fun d2 r2 u F2 H2 R2 s2 x2 p2 => ?_
  have y1 := rep_mono s2 _ _ x1
  cases d with
  | ins c1 gs =>
    cases d2 with
    | ins c' fs =>
      simp only at p2
      by_cases hcc : c1 = c ∧ c' = c
      · rw [if_pos hcc] at p2
        obtain ⟨rfl, rfl⟩ := hcc
        obtain ⟨a, C', dx, ws, rfl, hC, hF, hrf⟩ := id x2
        obtain ⟨a1, C1, dx1, ws1, rfl, hC1, hF1, hrf1⟩ := id y1
        rw [hc] at hC hC1
        cases hC
        cases hC1
        exact ⟨a1, dx1, ws1, a, dx, ws, rfl, R2.fh _ _ hF1, rfl, R2.fh _ _ hF, callM_po (ds := [_, _]) (vs := [_, _]) R2 ⟨_, _, rfl, y1, _, _, rfl, x2, rfl⟩ hdd (hP Q) p2⟩
      · rw [if_neg hcc] at p2
        exact p2.elim
    | _ => exact p2.elim
  | _ => exact p2.elim
theorem de_opO {op : Operator} (F : CalA X.prog X.w X.K X.mg X.base k f den) (tk : Takes X W) (hr : Room j X.A) (hk : k ≤ j) (hc : X.mg c = some (.ref C)) (hsf : PySem.W.selfFirst X.K C = true) (hm : Meth X.K C (PySem.dunder op.info.2) f) (ha : DE X W a fa) (hb : DE X W b fb) :
    DE X W (.BinOp a op b pos) (eOwnL c some den fa fb) := by
  obtain ⟨fd, ps, ds, dvs, dds, den0, G, hbi, hd, hdd, rfl⟩ := F.ex
  obtain ⟨ta, pa, ea⟩ := ha.ex
  obtain ⟨tb, pb, eb⟩ := hb.ex
  refine ⟨_, ⟨fun pins s σ H Q I h => ?_⟩, ownL_ent (P := fun Q v H => Q v H) hc hdd (fun Q d z v F' H' e h q => by cases e; exact q _ h) ea eb⟩
  refine wpAny_BinOp (bin (f := fun v u => binaryOp op v u) pa pb I h fun v u s2 x y H2 I2 rx ry q => ?_)
  obtain ⟨a, dx, fs, b, dy, gs, rfl, e, rfl, e', q⟩ := q
  cases (show v = Value.ref a from rx)
  cases (show u = Value.ref b from ry)
  obtain ⟨ox, od, J⟩ := inst_of I2 e
  obtain ⟨ox', od', J'⟩ := inst_of I2 e'
  obtain ⟨m, hF⟩ := I2.fr
  refine PySem.W.binop_K hF I2.ok.mod.kin J J'.type hsf hm.at_ hm.fn (wpAny_mono (run_fnSD (us := [.ref a, .ref b]) (vs := [.ref a, .ref b]) G (hr.mono hk) hbi hd (passAt tk σ) I2 (.cons rfl (.cons rfl .nil)) q) (fun w s' z => ?_) fun _ _ e => e)
  obtain ⟨v', H', I', r', qb⟩ := z
  exact SlX.cmpback r' ⟨v', H', I', r', qb⟩
theorem dc_eqO (F : CalA X.prog X.w X.K X.mg X.base k f den) (tk : Takes X W) (hr : Room j X.A) (hk : k ≤ j) (hc : X.mg c = some (.ref C)) (hm : Meth X.K C "__eq__" f) (ha : DE X W a fa) (hb : DE X W b fb) : DC X W .Eq a b (eOwnL c some den fa fb) := by
  obtain ⟨fd, ps, ds, dvs, dds, den0, G, hbi, hd, hdd, rfl⟩ := F.ex
  obtain ⟨ta, pa, ea⟩ := ha.ex
  obtain ⟨tb, pb, eb⟩ := hb.ex
  refine ⟨_, ⟨fun pins s σ H Q I h => ?_⟩, ownL_ent (P := fun Q v H => Q v H) hc hdd (fun Q d z v F' H' e h q => by cases e; exact q _ h) ea eb⟩
  refine bin (f := fun v u => compareOp .Eq v u) pa pb I h fun v u s2 x y H2 I2 rx ry q => ?_
  obtain ⟨a, dx, fs, b, dy, gs, rfl, e, rfl, e', q⟩ := q
  cases (show v = Value.ref a from rx)
  cases (show u = Value.ref b from ry)
  obtain ⟨ox, od, J⟩ := inst_of I2 e
  obtain ⟨ox', od', J'⟩ := inst_of I2 e'
  obtain ⟨m, hF⟩ := I2.fr
  show wpAny _ _ (richCompare .Eq _ _) _ _ _
  refine PySem.W.cmp_K (op := .Eq) (tb := .ref C) hr.units0 hF I2.ok.mod.kin J J'.type (by simp [PySem.W.notFirst]) hm.at_ hm.fn (wpAny_mono (run_fnSD (us := [.ref a, .ref b]) (vs := [.ref a, .ref b]) G (hr.mono hk) hbi hd (passAt tk σ) I2 (.cons rfl (.cons rfl .nil)) q) (fun w s' z => ?_) fun _ _ e => e)
  obtain ⟨v', H', I', r', qb⟩ := z
  exact SlX.cmpback r' ⟨v', H', I', r', qb⟩
theorem run_fnSDin {CX : CXT} {fd : FuncData} {ps : List Str} {sp : Sp} {dvs : List V} {ds : List Value} {E : L2.St → XK} {pins : List (Addr × Obj)} {σ : L2.St} {H : Hp} {s : Shared} {Q : VK} {us : List Value} {vs : List V} (F : FnOk X.prog X.w X.K X.mg X.base CX k f fd ps sp) (hr : Room (k + 1) X.A) (hb : Binds X.K fd ps ds) (hd : Vals dvs ds) (hx : PassesAt CX X σ (E σ))
    (I : Inv X pins σ H s) (r : Vals vs us) (h : sp (vs ++ dvs) H Q (E σ)) : wpAny (model X.prog X.w) X.A.in1 (call (.ref f) us) (EP X pins σ Q) X.xe s := by
  have r2 : Vals (vs ++ dvs) (us ++ ds) := r.append hd
  have hl : (us ++ ds).length = ps.length := by rw [← r2.length]; exact F.len _ _ _ _ h
  refine wpAny_call (codeAny_mono (F.run X.A.in1 X.stack s H ⟨us, []⟩ (us ++ ds) (vs ++ dvs) Q (E σ) hr.in1 I.env0.in1 (hb s us I.kIn hl) r2 h) fun r s' hq => ?_)
  cases r with
  | error e => exact hx pins H s e s' I hq
  | ok fl =>
    cases fl with
    | ret u => exact I.after hq
    | next => exact False.elim hq
    | brk => exact False.elim hq
    | cont => exact False.elim hq
theorem dc_neO (F : CalA X.prog X.w X.K X.mg X.base k f den) (tk : Takes X W) (hr : Room j X.A) (hk : k + 1 ≤ j) (hc : X.mg c = some (.ref C)) (hm : Meth X.K C "__eq__" f) (hne : PySem.W.findIn X.K (.ref C) "__ne__" = some (some (.builtin "object.__ne__"))) (hmr : PySem.W.mroIn X.K C (.type "object") = some true)
    (ha : DE X W a fa) (hb : DE X W b fb) : DC X W .NotEq a b (eOwnL c toNB den fa fb) := by
  obtain ⟨fd, ps, ds, dvs, dds, den0, G, hbi, hd, hdd, rfl⟩ := F.ex
  obtain ⟨ta, pa, ea⟩ := ha.ex
  obtain ⟨tb, pb, eb⟩ := hb.ex
  refine ⟨_, ⟨fun pins s σ H Q I h => ?_⟩, ownL_ent (P := fun Q v H => ∃ b, v = .bl b ∧ Q (.bl (!b)) H) hc hdd (fun Q => hP_NB) ea eb⟩
  refine bin (f := fun v u => compareOp .NotEq v u) pa pb I h fun v u s2 x y H2 I2 rx ry q => ?_
  obtain ⟨a, dx, fs, b, dy, gs, rfl, e, rfl, e', q⟩ := q
  cases (show v = Value.ref a from rx)
  cases (show u = Value.ref b from ry)
  obtain ⟨ox, od, J⟩ := inst_of I2 e
  obtain ⟨ox', od', J'⟩ := inst_of I2 e'
  obtain ⟨m, hF⟩ := I2.fr
  show wpAny _ _ (richCompare .NotEq _ _) _ _ _
  refine ne_own (tb := .ref C) (by have := hr.units; omega) hF I2.ok.mod.kin J J'.type (by simp [PySem.W.notFirst]) hne hmr hm.at_ hm.fn (wpAny_mono (run_fnSDin (us := [.ref a, .ref b]) (vs := [.ref a, .ref b]) G (hr.mono hk) hbi hd (passAt tk σ) I2 (.cons rfl (.cons rfl .nil)) q) (fun w s' z => ?_) fun _ _ e => e)
  obtain ⟨v', H', I', r', b, e', qb⟩ := z
  exact ⟨b, truthyB r' e', .bl _, H', I', rfl, qb⟩
end
end Dl

set_option Elab.async false
set_option linter.all false
set_option maxRecDepth 100000
set_option maxHeartbeats 4000000
namespace PySem
open Sem (wp)
theorem dl_enum_new {v : Value} {o : Obj} {H : Heap → Prop} (B : Begins v o H) :
    Meets (Builtin.«enumerate.__new__» ⟨[.type "enumerate", v], []⟩) (fun _ R s => H s.heap ∧
      R (.ok (.ret (.ref (s.heap.push o).objs.size))) { s with heap := (s.heap.push o).push { cls := .type "enumerate", data := .fields #[.none, .bool false, .ref s.heap.objs.size, rawInt 0, .none, .none] } }) :=
  .of_wp fun prog w A R s h => by
    obtain ⟨hp, g, d, tk, os⟩ := s; obtain ⟨h1, h⟩ := h
    have hsub := sub_enumerate
    have q1 : ∀ {A' : Around} {E : Value → Shared → Prop} {Q : Value → Shared → Prop}, Q (.ref hp.objs.size) ⟨hp.push o, g, d, tk, os⟩ → wpAny (model prog w) A' (pyIter v) Q E ⟨hp, g, d, tk, os⟩ :=
      fun q => B.iter prog w _ _ ⟨hp, g, d, tk, os⟩ _ h1 q
    wp_walk using q1
    refine wpAny_stack_any fun st => wpAny_pure ?_
    split
    · rename_i c _ _ _ _ _
      cases (c == Value.type "enumerate")
      · wp_walk using q1
        exact ⟨_, rfl, h⟩
      · wp_walk using q1
        exact ⟨_, rfl, h⟩
    · wp_walk using q1
      exact ⟨_, rfl, h⟩
section
variable {prog : Program} {w : World} {A : Around} {E : Value → Shared → Prop} {s : Shared}
theorem dl_call_enum {v : Value} {o : Obj} {H : Heap → Prop} {Q : Value → Shared → Prop} (B : Begins v o H) (h1 : H s.heap)
    (h : ∀ h', IsEnum h' (s.heap.objs.size + 1) s.heap.objs.size 0 .none → h'.get? s.heap.objs.size = some o → h'.objs.size = s.heap.objs.size + 2 →
      (∀ b o, s.heap.get? b = some o → h'.get? b = some o) → Q (.ref (s.heap.objs.size + 1)) { s with heap := h' }) :
    wpAny (model prog w) A (call (.type "enumerate") [v]) Q E s := by
  refine callType_new F.called_enumerate (by decide) (F.typeCall_enumerate_1 _) (F.newCall_enumerate_1 _) (fun obj => F.args_object_init_2 obj _) F.entry_enumerate_new
    (dl_enum_new B) ⟨h1, ?_⟩
  have hz : (s.heap.push o).objs.size = s.heap.objs.size + 1 := Heap.size_push ..
  show _ ∧ _
  rw [hz]
  have he : IsEnum ((s.heap.push o).push { cls := .type "enumerate", data := .fields #[.none, .bool false, .ref s.heap.objs.size, rawInt 0, .none, .none] }) (s.heap.objs.size + 1) s.heap.objs.size 0 .none := by
    have := Heap.get?_push_size (s.heap.push o) (o := { cls := .type "enumerate", data := .fields #[.none, .bool false, .ref s.heap.objs.size, rawInt 0, .none, .none] }) rfl
    rw [hz] at this; exact this
  refine ⟨⟨_, he, rfl⟩, h _ he (Heap.get?_push_of_some _ (Heap.get?_push_size _ B.free)) (by rw [Heap.size_push, hz]) fun b o x => Heap.get?_push_of_some _ (Heap.get?_push_of_some _ x)⟩
end
end PySem
namespace L2
open PySem PySem.Spec PyProof.Rows
/-- the tuple at a, each item in a new pair -/
def IteT (K : PySem.W.Frag) (a : Addr) : It :=
  ⟨fun i H => ∃ (xs : List V) (x : V), SqT K H a xs ∧ xs[i]? = some x, fun i H v H' => ∃ T x, v = .ref T ∧ H T = none ∧ H' = upd H T (.tup [.int (i : Nat), x]) ∧ ∀ xs, SqT K H a xs → xs[i]? = some x, fun i H => ∃ xs : List V, SqT K H a xs ∧ xs.length = i⟩
theorem turn_enumT {P : Program} {w : World} {K : PySem.W.Frag} {elts : List Expr} {kk : Nat} {tpos : Pos} (a e it : Addr) :
    Turn P w K (.Tuple elts kk tpos) (IteT K a) [e, it] e (fun i h => (∃ old, IsEnum h e it ((i : Nat) : Int) old) ∧ h.IsTupleIter it a i ∧ e ≠ it) where
  mem := by simp
  obj := fun i h st b hb => by
    obtain ⟨⟨old, he⟩, ⟨o, ho, hc, hd⟩, _⟩ := st
    have e' : b = e ∨ b = it := by simpa using hb
    rcases e' with z | z
    · rw [z]; exact ⟨_, he, fun v q => nomatch q⟩
    · rw [z]; exact ⟨o, ho, fun v q => by rw [hd] at q; cases q⟩
  keep := fun i h h' st k => let ⟨⟨old, he⟩, hi, hne⟩ := st; ⟨⟨old, k e (by simp) _ he⟩, hi.at fun o q => k it (by simp) o q, hne⟩
  item := by
    intro X hP hw hK hc i pins s σ H E I hf st hg
    subst hP hw hK
    obtain ⟨⟨old, he⟩, hit, hne⟩ := st
    obtain ⟨xs, x, hq, hx⟩ := hg
    obtain ⟨its, rv, p, hz⟩ := I.tuple hq
    obtain ⟨u, hu, ru⟩ := rv.get hx
    have p' : s.heap.IsTuple a its.toArray := p
    have hel : e < s.heap.objs.size := Heap.lt_size he
    have hil : it < s.heap.objs.size := by obtain ⟨_, q, _⟩ := hit; exact Heap.lt_size q
    have nai : a ≠ it := by
      rintro rfl
      obtain ⟨o1, q1, c1, _⟩ := p'
      obtain ⟨o2, q2, c2, _⟩ := hit
      rw [q1] at q2
      cases q2
      rw [c1] at c2
      exact absurd c2 (by decide)
    have nae : e ≠ a := by
      rintro rfl
      obtain ⟨o1, q1, c1, _⟩ := p'
      have he' := he
      unfold IsEnum at he'
      rw [q1] at he'
      cases he'
      exact absurd (show Value.type "enumerate" = Value.type "tuple" from c1) (by decide)
    have hlt : i < its.toArray.size := by
      have := (List.getElem?_eq_some_iff.mp hu).1
      simpa using this
    refine wpAny_pyNext_enum_itemD (Draws.tuple (A := X.A.in1) (I.ok.hd hc) it a nai its.toArray) he ⟨hit, p'⟩ hlt hne (by simp [hne, nae]) fun u' h' tk hP ho hst hT hsz hk => ?_
    have eu : u' = u := by
      have q : its.toArray[i]? = some u' := hP
      rw [List.getElem?_toArray, hu] at q
      cases q
      rfl
    subst eu
    refine ⟨_, rfl, wpAny_letOwnedTupleGo_enum (s := { s with heap := h', toks := tk + 1 }) ho fun h'' he' sb => ?_⟩
    have hT2 : h''.get? s.heap.objs.size = some { cls := .type "tuple", data := .seq #[.int i tk, u'] } := (sb.2 _ (Nat.ne_of_gt hel)).trans hT
    have new : ObjOk X.prog X.w (upd H s.heap.objs.size (.tup [.int (i : Nat), x])) h'' s.heap.objs.size (.tup [.int (i : Nat), x]) :=
      ⟨by show 2 ≤ sizeLine; decide, [.int i tk, u'], .cons ⟨_, rfl⟩ (.cons ru .nil), ⟨_, hT2, rfl, _, rfl⟩⟩
    have I1 : Inv X pins σ (upd H s.heap.objs.size (.tup [.int (i : Nat), x])) { s with heap := h'', toks := tk + 1 } :=
      I.turnedNew (ch := [e, it]) (fun b ob hb q => (sb.2 b (fun z => hb (by simp [z]))).trans (hk b ob (fun z => hb (by simp [z])) (fun z => hb (by simp [z])) q)) hf (Nat.le_refl _) new
    refine ⟨.ref s.heap.objs.size, _, I1, rfl, ⟨_, x, rfl, I.hok.fresh (Nat.le_refl _), rfl, fun ys hy => by rw [I.tuple_inj hy hq]; exact hx⟩, ⟨⟨u', ?_⟩, hst.1.at fun o q => (sb.2 it (Ne.symm hne)).trans q, hne⟩, fun b hb => ?_⟩
    · have e1 : ((i + 1 : Nat) : Int) = (i : Int) + 1 := by omega
      rw [e1]; exact he'
    · have hb' : b < s.heap.objs.size := by
        have e' : b = e ∨ b = it := by simpa using hb
        rcases e' with z | z
        · rw [z]; exact hel
        · rw [z]; exact hil
      rw [upd_ne (Nat.ne_of_lt hb')]
      exact (hf b hb).1
  done := by
    intro X hP hw hK hc i pins s σ H E I hf st hg
    subst hP hw hK
    obtain ⟨⟨old, he⟩, hit, hne⟩ := st
    obtain ⟨xs, hq, hx⟩ := hg
    obtain ⟨its, rv, p, hz⟩ := I.tuple hq
    have p' : s.heap.IsTuple a its.toArray := p
    obtain ⟨f0, f1, f2, f3, f4, f5⟩ := hf it (by simp)
    have hl := rv.length
    have nai : a ≠ it := by
      rintro rfl
      obtain ⟨o1, q1, c1, _⟩ := p'
      obtain ⟨o2, q2, c2, _⟩ := hit
      rw [q1] at q2
      cases q2
      rw [c1] at c2
      exact absurd c2 (by decide)
    have hn : i = its.toArray.size := by simp; omega
    subst hn
    exact wpAny_pyNext_enum_endD (Draws.tuple (A := X.A.in1) (I.ok.hd hc) it a nai its.toArray) he ⟨hit, p'⟩ fun h' eb => ⟨rfl, I.turned (t' := s.toks) (fun b o hb q => eb b o hb q) f0 f1 f3 f4 f5⟩
  self := fun A i s Q E st h => let ⟨⟨_, he⟩, _⟩ := st; wpAny_pyIter_enum he h
def iEnumT (K : PySem.W.Frag) (ta : TA) : TI := fun σ H R => ta σ H fun vs H1 => ∃ a xs, vs = [.ref a] ∧ SqT K H1 a xs ∧ R (IteT K a) H1
theorem pi_enumT {X : Cx} {e : Expr} {ta : TA} {p pos tpos : Pos} {elts : List Expr} {kk : Nat} (hg : Gl X "enumerate") (hm : X.mg "enumerate" = none) (ha : PA X [e] ta) (hs : starEach [e] X.env = [(false, eval e X.env)] := by rfl) :
    PI X (.Tuple elts kk tpos) (.Call (.Name "enumerate" p) [e] [] pos) (iEnumT X.K ta) := by
  refine ⟨fun pins s σ H R I h => ?_⟩
  refine Call_ (ld_blt I hg hm boot_enumerate (PyProof.Rows.callWith_type1 (thn (ha.run pos pins s σ H _ I h) fun us s1 ⟨vs, H1, I1, r1, q1⟩ => ?_) hs rfl))
  obtain ⟨a, xs, ex, hq, q⟩ := q1
  subst ex
  cases r1 with
  | cons r rr =>
    cases rr
    cases r
    obtain ⟨its, rv, p', hz⟩ := I1.tuple hq
    have p'' : s1.heap.IsTuple a its.toArray := p'
    refine dl_call_enum (begins_tuple a its.toArray) p'' fun h' he hit hsz hk => wpAny_pyIter_enum he ?_
    have I2 : Inv X pins σ H1 { s1 with heap := h' } := I1.kept (t' := s1.toks) hk
    refine ⟨s1.heap.objs.size + 1, [s1.heap.objs.size + 1, s1.heap.objs.size], _, _, H1, rfl, I2, turn_enumT a (s1.heap.objs.size + 1) s1.heap.objs.size, ⟨⟨.none, he⟩, ⟨_, hit, rfl, rfl⟩, Nat.succ_ne_self _⟩, fun b hb => ?_, q⟩
    have e' : b = s1.heap.objs.size + 1 ∨ b = s1.heap.objs.size := by simpa using hb
    have hle : s1.heap.objs.size ≤ b := by
      rcases e' with z | z
      · rw [z]; exact Nat.le_add_right _ _
      · rw [z]; exact Nat.le_refl _
    exact I1.fpOk hle (I1.hok.fresh hle)
end L2
namespace Dl
open PySem L2
section
variable {X : Cx} {W : WX} {e : Expr} {p pos : Pos}
def iEnT (f : En → Res (List D × En)) : En → Res (List D × En) := fun r => (f r).bind fun p => match p.1 with
  | [.tup es] => .ok (enumD es, p.2)
  | _ => .bad
theorem walk_enumT {K : PySem.W.Frag} {a : Addr} {xs : List V} : Walk (IteT K a) xs.length (fun H => SqT K H a xs) (YPair (fun i => some (.int (i : Nat))) (fun i => xs[i]?)) := by
  refine ⟨fun i _ hi q => ⟨xs, xs[i], q, by simp [hi]⟩, fun _ q => ⟨xs, q, rfl⟩, fun i H v H' _ q y => ?_⟩
  obtain ⟨T, x, h1, h2, h3, h4⟩ := y
  exact ⟨T, .int (i : Nat), x, h1, h2, h3, rfl, h4 xs q⟩
theorem di_enumT {f : En → Res (List D × En)} {elts : List Expr} {kk : Nat} {tpos : Pos} (hg : Gl X "enumerate") (hm : X.mg "enumerate" = none) (ha : DA X W [e] f) (hs : starEach [e] X.env = [(false, eval e X.env)] := by rfl) : DI X W (.Tuple elts kk tpos) (.Call (.Name "enumerate" p) [e] [] pos) (iEnT f) := by
  obtain ⟨t, hp, he⟩ := ha.ex
  refine ⟨_, pi_enumT hg hm hp hs, fun B F H r σ Q R p => he.to R p fun ds r1 vs F1 H1 R1 s1 x1 p1 => ?_⟩
  simp only at p1
  split at p1
  · rename_i es
    obtain ⟨w, ws, rfl, h1, h2⟩ := x1
    obtain ⟨a, xs, rfl, ha, ra⟩ := h1
    cases (show ws = [] from h2)
    refine ⟨a, xs, rfl, sqT_mono R1.fh ha, p1 _ F1 H1 R1 (Same.refl F1) ?_⟩
    have hl : (enumD es).length = xs.length := by unfold enumD; rw [List.length_map, List.length_zipIdx, repL_len ra]
    refine wk_pair (G := fun H => SqT X.K H a xs) (xs := fun i => some (.int (i : Nat))) (ys := fun i => xs[i]?) ?_ (fun F' H' s1 s2 => sqT_mono (s1.trans s2) ha) ?_
    · rw [hl]
      exact walk_enumT
    · intro i d x y e hx hy
      unfold enumD at e
      rw [List.getElem?_map, List.getElem?_zipIdx] at e
      cases q : es[i]? with
      | none =>
        rw [q] at e
        cases e
      | some d0 =>
        rw [q] at e
        cases e
        obtain ⟨v, e1, e2⟩ := repL_get ra q
        have hy' : xs[i]? = some y := hy
        rw [hy'] at e1
        cases e1
        cases hx
        exact ⟨_, _, rfl, by simp [rep], e2⟩
  · exact p1.elim
end
end Dl

set_option Elab.async false
set_option linter.all false
set_option maxRecDepth 100000
set_option maxHeartbeats 4000000
namespace Dl
open PySem L2

/-! ### several readings of one operator -/
def orD (g h : D → D → Option D) : D → D → Option D := fun x y => match g x y with
  | some z => some z
  | none => h x y
def orU (g h : D → Option D) : D → Option D := fun x => match g x with
  | some z => some z
  | none => h x
theorem eBin_or {g h : D → D → Option D} {fa fb : En → Res (BV × En)} : eAlt (eBin g fa fb) (eBin h fa fb) = eBin (orD g h) fa fb := by
  funext r
  unfold eAlt eBin orD
  cases fa r with
  | ok p =>
    simp only [bind_ok]
    cases fb p.2 with
    | ok q =>
      simp only [bind_ok]
      cases getB p.1 q.2 with
      | ok x =>
        simp only [bind_ok]
        cases getB q.1 q.2 with
        | ok y =>
          simp only [bind_ok]
          cases g x y with
          | some z => rfl
          | none =>
            simp only [liftR, bind_bad]
        | er c fs r' => rfl
        | bad => rfl
      | er c fs r' => rfl
      | bad => rfl
    | er c fs r' => rfl
    | bad => rfl
  | er c fs r' => rfl
  | bad => rfl
theorem eUn_or {g h : D → Option D} {fa : En → Res (BV × En)} : eAlt (eUn g fa) (eUn h fa) = eUn (orU g h) fa := by
  funext r
  unfold eAlt eUn orU
  cases fa r with
  | ok p =>
    simp only [bind_ok]
    cases getB p.1 p.2 with
    | ok x =>
      simp only [bind_ok]
      cases g x with
      | some z => rfl
      | none =>
        simp only [liftR, bind_bad]
    | er c fs r' => rfl
    | bad => rfl
  | er c fs r' => rfl
  | bad => rfl
section
variable {X : Cx} {W : WX} {k : Nat} {a b e : Expr} {pos p : Pos} {fa fb : En → Res (BV × En)} {g h : D → D → Option D} {g1 h1 : D → Option D} {op : CmpOp}
theorem DE.or2 (x : DE X W e (eBin g fa fb)) (y : DE X W e (eBin h fa fb)) : DE X W e (eBin (orD g h) fa fb) := by
  rw [← eBin_or]
  exact x.alt y
theorem DC.or2 (x : DC X W op a b (eBin g fa fb)) (y : DC X W op a b (eBin h fa fb)) : DC X W op a b (eBin (orD g h) fa fb) := by
  rw [← eBin_or]
  exact x.alt y
theorem DE.or1 (x : DE X W e (eUn g1 fa)) (y : DE X W e (eUn h1 fa)) : DE X W e (eUn (orU g1 h1) fa) := by
  rw [← eUn_or]
  exact x.alt y
theorem DN.or1 (x : DN X W e (eUn g1 fa)) (y : DN X W e (eUn h1 fa)) : DN X W e (eUn (orU g1 h1) fa) := by
  rw [← eUn_or]
  exact x.alt y
theorem DC.db (h : DC X W op a b (eBin g fa fb)) (hm : behindInMarks op b = false := by first | exact nomark _ | rfl) : DB X W (.Compare a [op] [b] pos) (bOf (eBin g fa fb)) := (h.de hm).db
theorem de_add (ha : DB X W a fa) (hb : DB X W b fb) : DE X W (.BinOp a .Add b pos) (eBin addI fa fb) := de_op op_add ov_add ha hb
theorem de_sub (ha : DB X W a fa) (hb : DB X W b fb) : DE X W (.BinOp a .Sub b pos) (eBin subI fa fb) := de_op op_sub ov_sub ha hb
theorem de_mul (ha : DB X W a fa) (hb : DB X W b fb) : DE X W (.BinOp a .Mult b pos) (eBin mulI fa fb) := de_op op_mul ov_mul ha hb
theorem de_mod (ha : DB X W a fa) (hb : DB X W b fb) : DE X W (.BinOp a .Mod b pos) (eBin modI fa fb) := de_op op_mod ov_mod ha hb
theorem de_fdiv (ha : DB X W a fa) (hb : DB X W b fb) : DE X W (.BinOp a .FloorDiv b pos) (eBin fdivI fa fb) := de_op op_fdiv ov_fdiv ha hb
theorem de_pow (ha : DB X W a fa) (hb : DB X W b fb) : DE X W (.BinOp a .Pow b pos) (eBin powI fa fb) := de_op op_pow ov_pow ha hb
theorem dn_cat (ha : DB X W a fa) (hb : DB X W b fb) : DN X W (.BinOp a .Add b pos) (eBin catL fa fb) := dn_op op_cat on_cat ha hb
theorem de_neg (ha : DB X W a fa) : DE X W (.UnaryOp .USub a pos) (eUn negI fa) := de_un un_neg uv_neg ha
theorem dc_lt (ha : DB X W a fa) (hb : DB X W b fb) : DC X W .Lt a b (eBin ltI fa fb) := dc_op op_lt ov_lt ha hb
theorem dc_le (ha : DB X W a fa) (hb : DB X W b fb) : DC X W .LtE a b (eBin leI fa fb) := dc_op op_le ov_le ha hb
theorem dc_gt (ha : DB X W a fa) (hb : DB X W b fb) : DC X W .Gt a b (eBin gtI fa fb) := dc_op op_gt ov_gt ha hb
theorem dc_ge (ha : DB X W a fa) (hb : DB X W b fb) : DC X W .GtE a b (eBin geI fa fb) := dc_op op_ge ov_ge ha hb
theorem dc_eq (hr : Room k X.A) (ha : DB X W a fa) (hb : DB X W b fb) : DC X W .Eq a b (eBin eqD fa fb) := dc_op (op_eqA hr.units) ov_eq ha hb
theorem dc_ne (hr : Room k X.A) (ha : DB X W a fa) (hb : DB X W b fb) : DC X W .NotEq a b (eBin neD fa fb) := dc_op (op_neA hr.units) ov_ne ha hb
theorem dc_is (ha : DB X W a fa) (hb : DB X W b fb) : DC X W .Is a b (eBin isN fa fb) := dc_op op_isN ov_isN ha hb
theorem dc_isnot (ha : DB X W a fa) (hb : DB X W b fb) : DC X W .IsNot a b (eBin notN fa fb) := dc_op op_notN ov_notN ha hb
theorem Room.u200 {k : Nat} {A : Around} (r : Room k A) : A.units + 199 < cLine := by have := r.un; omega
theorem dc_inL (hr : Room k X.A) (ha : DB X W a fa) (hb : DB X W b fb) : DC X W .In a b (eBin inLst fa fb) := dc_op (op_inD (by have := Room.u200 hr; omega)) ov_inLst ha hb
theorem dc_ninL (hr : Room k X.A) (ha : DB X W a fa) (hb : DB X W b fb) : DC X W .NotIn a b (eBin ninLst fa fb) := dc_op (op_notInD (by have := Room.u200 hr; omega)) ov_ninLst ha hb
theorem dc_inS (ha : DB X W a fa) (hb : DB X W b fb) : DC X W .In a b (eBin inStr fa fb) := dc_op op_in_str ov_inStr ha hb
theorem dc_inK (hr : Room k X.A) (ha : DB X W a fa) (hb : DB X W b fb) : DC X W .In a b (eBin dinD fa fb) := dc_din (by have := Room.u200 hr; omega) ha hb
theorem dc_ninK (hr : Room k X.A) (ha : DB X W a fa) (hb : DB X W b fb) : DC X W .NotIn a b (eBin dninD fa fb) := dc_dnin (by have := Room.u200 hr; omega) ha hb
theorem de_at (ha : DB X W a fa) (hb : DB X W b fb) (hs : PlainIx b := by exact fun _ _ => rfl) : DE X W (.Subscript a b pos) (eBin ixG fa fb) := de_ix ix_seq ov_ix ha hb hs
theorem de_atK (hr : Room k X.A) (ha : DB X W a fa) (hb : DB X W b fb) (hs : NoSl b := by exact fun _ _ => rfl) : DE X W (.Subscript a b pos) (eBin dgetD fa fb) := de_dget (by have := Room.u200 hr; omega) ha hb hs
theorem de_len (hm : X.mg "len" = none) (ha : DB X W a fa) (hg : Gl X "len" := by rfl) (hst : starEach [a] X.env = (false, eval a X.env) :: starEach [] X.env := by rfl) : DE X W (.Call (.Name "len" p) [a] [] pos) (eUn (orU lenD lenK) fa) :=
  (de_b1 call_len uv_len hg hm boot_len ha hst (by decide) (by decide)).or1 (de_b1 call_lenK uv_lenK hg hm boot_len ha hst (by decide) (by decide))
theorem de_abs (hm : X.mg "abs" = none) (ha : DB X W a fa) (hg : Gl X "abs" := by rfl) (hst : starEach [a] X.env = (false, eval a X.env) :: starEach [] X.env := by rfl) : DE X W (.Call (.Name "abs" p) [a] [] pos) (eUn absD fa) :=
  de_b1 call_abs uv_abs hg hm PyProof.Rows.boot_abs ha hst (by decide) (by decide)
theorem de_all (hc : X.calm = true) (hm : X.mg "all" = none) (ha : DB X W a fa) (hg : Gl X "all" := by rfl) (hst : starEach [a] X.env = (false, eval a X.env) :: starEach [] X.env := by rfl) : DE X W (.Call (.Name "all" p) [a] [] pos) (eUn allD fa) :=
  de_b1 (cr_all hc) uv_all hg hm (by decide +kernel) ha hst (by decide) (by decide)
theorem de_any (hc : X.calm = true) (hm : X.mg "any" = none) (ha : DB X W a fa) (hg : Gl X "any" := by rfl) (hst : starEach [a] X.env = (false, eval a X.env) :: starEach [] X.env := by rfl) : DE X W (.Call (.Name "any" p) [a] [] pos) (eUn anyD fa) :=
  de_b1 (cr_any hc) uv_any hg hm (by decide +kernel) ha hst (by decide) (by decide)
theorem de_sum (hc : X.calm = true) (hm : X.mg "sum" = none) (ha : DB X W a fa) (hg : Gl X "sum" := by rfl) (hst : starEach [a] X.env = (false, eval a X.env) :: starEach [] X.env := by rfl) : DE X W (.Call (.Name "sum" p) [a] [] pos) (eUn sumD fa) :=
  de_b1 (cr_sum hc) uv_sum hg hm (by decide +kernel) ha hst (by decide) (by decide)
theorem de_reprB (hm : X.mg "repr" = none) (ha : DB X W a fa) (hg : Gl X "repr" := by rfl) (hst : starEach [a] X.env = (false, eval a X.env) :: starEach [] X.env := by rfl) : DE X W (.Call (.Name "repr" p) [a] [] pos) (eUn reprB fa) :=
  de_b1 call_reprB uv_reprB hg hm PyProof.Rows.boot_repr ha hst (by decide) (by decide)
theorem dn_sorted (hr : Room k X.A) (hm : X.mg "sorted" = none) (ha : DB X W a fa) (hg : Gl X "sorted" := by rfl) (hst : starEach [a] X.env = (false, eval a X.env) :: starEach [] X.env := by rfl) : DN X W (.Call (.Name "sorted" p) [a] [] pos) (eUn sortedD fa) :=
  dn_b1 (call_sortD (by have := Room.u200 hr; omega)) un_sort hg hm PyProof.Rows.boot_sorted ha hst (by decide) (by decide)
theorem de_int1 (hm : X.mg "int" = none) (ha : DB X W a fa) (hg : Gl X "int" := by rfl) (hst : starEach [a] X.env = (false, eval a X.env) :: starEach [] X.env := by rfl) : DE X W (.Call (.Name "int" p) [a] [] pos) (eUn intD fa) :=
  de_t1 call_int1 uv_int hg hm PyProof.Rows.boot_int ha hst (by decide) (by decide)
theorem dn_dict1 (hc : X.calm = true) (hm : X.mg "dict" = none) (ha : DB X W a fa) (hg : Gl X "dict" := by rfl) (hst : starEach [a] X.env = (false, eval a X.env) :: starEach [] X.env := by rfl) : DN X W (.Call (.Name "dict" p) [a] [] pos) (eUn (orU dictD dictP) fa) :=
  (dn_t1 call_dictC un_dictC hg hm PyProof.Rows.boot_dict ha hst (by decide) (by decide)).or1 (dn_t1 (call_dictP hc) un_dictP hg hm PyProof.Rows.boot_dict ha hst (by decide) (by decide))
theorem de_max2 (hc : X.calm = true) (hm : X.mg "max" = none) (ha : DB X W a fa) (hb : DB X W b fb) (hg : Gl X "max" := by rfl)
    (hst : starEach [a, b] X.env = (false, eval a X.env) :: starEach [b] X.env := by rfl) (hst2 : starEach [b] X.env = (false, eval b X.env) :: starEach [] X.env := by rfl) : DE X W (.Call (.Name "max" p) [a, b] [] pos) (eBin max2D fa fb) :=
  de_b2 (call_max2 hc) ov_max2 hg hm PyProof.Rows.boot_max ha hb hst hst2 (by decide) (by decide)
theorem de_min2 (hc : X.calm = true) (hm : X.mg "min" = none) (ha : DB X W a fa) (hb : DB X W b fb) (hg : Gl X "min" := by rfl)
    (hst : starEach [a, b] X.env = (false, eval a X.env) :: starEach [b] X.env := by rfl) (hst2 : starEach [b] X.env = (false, eval b X.env) :: starEach [] X.env := by rfl) : DE X W (.Call (.Name "min" p) [a, b] [] pos) (eBin min2D fa fb) :=
  de_b2 (call_min2 hc) ov_min2 hg hm PyProof.Rows.boot_min ha hb hst hst2 (by decide) (by decide)
end
end Dl

set_option Elab.async false
set_option linter.all false
set_option maxRecDepth 100000
set_option maxHeartbeats 4000000
namespace Dl
open PySem L2
section
variable {X : Cx} {W : WX} {a : Expr} {pos p : Pos} {fa : En → Res (BV × En)}
theorem dn_list1 (hm : X.mg "list" = none) (ha : DB X W a fa) (hg : Gl X "list" := by rfl) (hst : starEach [a] X.env = (false, eval a X.env) :: starEach [] X.env := by rfl) : DN X W (.Call (.Name "list" p) [a] [] pos) (eUn listD fa) :=
  dn_t1 call_list_of un_list hg hm PyProof.Rows.boot_list ha hst (by decide) (by decide)
end
/-! ### more facts of the head -/
inductive Fb where
  | ins (c : Str)
  | noB (c : Str) (ns : List String)
  | noO (c : Str)
  | kit (c d : Str)
  | ops (c : Str)
  | conI (c f : Str) (i : Int)
  | conS (c f z : Str)
  | tup0 (q : Str × Option Str) (i : Nat)
def eqB (a b : Option Bool) : Bool := decide (a = b)
def conOf (K : PySem.W.Frag) (c f : Str) : Option Value := match PySem.W.findIn K (.ref (He.ga K c)) f with
  | some (some u) => some u
  | _ => none
def Fb.ok (K : PySem.W.Frag) : Fb → Bool
  | .ins c => He.eqO (PySem.W.findIn K (.ref (He.ga K c)) "__class__") (some (some (.builtin "object.__class__"))) && (He.eqO (PySem.W.specialIn K (.builtin "object.__class__") "__get__") (some (some (.builtin "getset_descriptor.__get__")))
      && (eqB (PySem.W.takesIn K (.builtin "object.__class__")) (some true) && eqB (PySem.W.mroIn K (He.ga K c) (.type "object")) (some true)))
  | .noB c ns => ns.all fun n => eqB (PySem.W.kitOne K (.ref (He.ga K c)) (.type n)) (some false)
  | .noO c => tyNs.all fun t => eqB (PySem.W.kitOne K (.type t) (.ref (He.ga K c))) (some false)
  | .kit c d => eqB (PySem.W.kitOne K (.ref (He.ga K c)) (.ref (He.ga K d))) (some false)
  | .ops c => PySem.W.selfFirst K (He.ga K c) && He.eqO (PySem.W.findIn K (.ref (He.ga K c)) "__ne__") (some (some (.builtin "object.__ne__")))
  | .conI c f i => (match conOf K c f with
    | some (.int j t) => decide (j = i) && He.eqO (PySem.W.specialIn K (.int j t) "__get__") (some none)
    | _ => false) && !PySem.W.copiedNames.contains f
  | .conS c f z => (match conOf K c f with
    | some (.str j t) => decide (j = z) && He.eqO (PySem.W.specialIn K (.str j t) "__get__") (some none)
    | _ => false) && !PySem.W.copiedNames.contains f
  | .tup0 q i => match K.lookup (He.dflAt q i K) with
    | some ⟨.type n, _, .seq its _, _⟩ => decide (n = "tuple") && decide (its.toList = [])
    | _ => false
section
variable {K : PySem.W.Frag}
theorem fb_ins {c : Str} (h : (Fb.ins c).ok K = true) (cl : Cls K (He.ga K c)) : InsC K (He.ga K c) := by
  obtain ⟨h1, h⟩ := He.ba h
  obtain ⟨h2, h⟩ := He.ba h
  obtain ⟨h3, h4⟩ := He.ba h
  exact ⟨cl, He.eqO_ok h1, He.eqO_ok h2, of_decide_eq_true h3, of_decide_eq_true h4⟩
theorem fb_noB {c : Str} {ns : List String} (h : (Fb.noB c ns).ok K = true) : ∀ n ∈ ns, PySem.W.kitOne K (.ref (He.ga K c)) (.type n) = some false := fun n hn => of_decide_eq_true (List.all_eq_true.mp h n hn)
theorem fb_noO {c : Str} (h : (Fb.noO c).ok K = true) : ∀ t ∈ tyNs, PySem.W.kitOne K (.type t) (.ref (He.ga K c)) = some false := fun n hn => of_decide_eq_true (List.all_eq_true.mp h n hn)
theorem fb_kit {c d : Str} (h : (Fb.kit c d).ok K = true) : PySem.W.kitOne K (.ref (He.ga K c)) (.ref (He.ga K d)) = some false := of_decide_eq_true h
theorem fb_self {c : Str} (h : (Fb.ops c).ok K = true) : PySem.W.selfFirst K (He.ga K c) = true := (He.ba h).1
theorem fb_ne {c : Str} (h : (Fb.ops c).ok K = true) : PySem.W.findIn K (.ref (He.ga K c)) "__ne__" = some (some (.builtin "object.__ne__")) := He.eqO_ok (He.ba h).2
theorem conOf_at {c f : Str} {u : Value} (h : conOf K c f = some u) : PySem.W.findIn K (.ref (He.ga K c)) f = some (some u) := by
  unfold conOf at h
  split at h
  · rename_i e
    cases h
    exact e
  · cases h
theorem fb_conI {c f : Str} {i : Int} (h : (Fb.conI c f i).ok K = true) : ∃ t, Con K (He.ga K c) f (.int i) (.int i t) := by
  obtain ⟨h1, h2⟩ := He.ba h
  have h2' : PySem.W.copiedNames.contains f = false := by
    cases q : PySem.W.copiedNames.contains f
    · rfl
    · rw [q] at h2
      cases h2
  split at h1
  · rename_i j t e
    obtain ⟨h3, h4⟩ := He.ba h1
    have ej : j = i := of_decide_eq_true h3
    subst ej
    exact ⟨t, conOf_at e, ⟨t, rfl⟩, He.eqO_ok h4, h2'⟩
  · cases h1
theorem fb_conS {c f z : Str} (h : (Fb.conS c f z).ok K = true) : ∃ t, Con K (He.ga K c) f (.str z) (.str z t) := by
  obtain ⟨h1, h2⟩ := He.ba h
  have h2' : PySem.W.copiedNames.contains f = false := by
    cases q : PySem.W.copiedNames.contains f
    · rfl
    · rw [q] at h2
      cases h2
  split at h1
  · rename_i j t e
    obtain ⟨h3, h4⟩ := He.ba h1
    have ej : j = z := of_decide_eq_true h3
    subst ej
    exact ⟨t, conOf_at e, ⟨t, rfl⟩, He.eqO_ok h4, h2'⟩
  · cases h1
theorem fb_tup0 {q : Str × Option Str} {i : Nat} {mg : Str → Option Value} (h : (Fb.tup0 q i).ok K = true) (F : Hp) : rep K mg F (.tup []) (.ref (He.dflAt q i K)) := by
  have h' : (match K.lookup (He.dflAt q i K) with
    | some ⟨.type n, _, .seq its _, _⟩ => decide (n = "tuple") && decide (its.toList = [])
    | _ => false) = true := h
  split at h'
  · rename_i n od its m sl e
    obtain ⟨h1, h2⟩ := He.ba h'
    have en : n = "tuple" := of_decide_eq_true h1
    have ei : its.toList = [] := of_decide_eq_true h2
    subst en
    refine ⟨He.dflAt q i K, [], rfl, .inr ⟨_, its, m, e, rfl, rfl, ?_, ?_⟩, rfl⟩
    · have : its.size = 0 := by rw [← Array.length_toList, ei]; rfl
      rw [this]
      exact Nat.zero_le _
    · rw [ei]
      exact .nil
  · cases h'
end
/-! ### the Hook -/
def obsF (fa : List He.Fa) (fn : List He.DefD) (fb : List Fb) (K : PySem.W.Frag) : He.AlD × Bool := (He.obsD fa fn K, fb.all fun f => f.ok K)
def valF (fn : List He.DefD) : He.AlD × Bool := (He.valD fn, true)
def SaysF (fa : List He.Fa) (fn : List He.DefD) (fb : List Fb) (K : PySem.W.Frag) : Prop := obsF fa fn fb K = valF fn
def obsFG (n : Nat) (fa : List He.Fa) (fn : List He.DefD) (fb : List Fb) (g : Addr → Option Obj) : He.AlD × Bool := obsF fa fn fb (He.frG g (He.asD g n))
def hookF (n : Nat) (fa : List He.Fa) (fn : List He.DefD) (fb : List Fb) : PySem.W.Hook where
  α := He.AlD × Bool
  obs := fun s => obsFG n fa fn fb s.heap.get?
  val := fun _ => valF fn
  says := fun _ h => ∃ K : PySem.W.Frag, K.In h ∧ SaysF fa fn fb K
  of := fun _ _ e => ⟨_, He.frG_in, e⟩
  keeps := fun _ _ _ ⟨K, hK, c⟩ k => ⟨K, PySem.W.Frag.In.keeps hK k, c⟩
theorem obsFG_eq {n : Nat} {fa : List He.Fa} {fn : List He.DefD} {fb : List Fb} {g : Addr → Option Obj} {s : Shared} (h : ∀ a, g a = s.heap.get? a) : obsFG n fa fn fb g = (hookF n fa fn fb).obs s := by
  have e : g = s.heap.get? := funext h
  rw [e] <;> rfl
/-- what the head tells of K and the module's names -/
structure Wd (fa : List He.Fa) (fn : List He.DefD) (fb : List Fb) (K : PySem.W.Frag) (mg : Str → Option Value) : Prop where
  ex : ∃ h : Heap, K.In h ∧ h.Ns mainGlobals mg
  c : SaysF fa fn fb K
section
variable {fa : List He.Fa} {fn : List He.DefD} {fb : List Fb} {K : PySem.W.Frag} {mg : Str → Option Value}
theorem Wd.d (V : Wd fa fn fb K mg) : He.SaysD fa fn K := congrArg (fun z : He.AlD × Bool => z.1) V.c
theorem Wd.fbs (V : Wd fa fn fb K mg) (i : Nat) {f : Fb} (h : fb[i]? = some f := by rfl) : f.ok K = true := by
  have c2 : (fb.all fun f => f.ok K) = true := congrArg (fun z : He.AlD × Bool => z.2) V.c
  exact List.all_eq_true.mp c2 f (List.mem_of_getElem? h)
theorem Wd.glo (V : Wd fa fn fb K mg) (i : Nat) {x : Str} (h : fa[i]? = some (.glo x) := by rfl) : mg x = some (.ref (He.ga K x)) := let ⟨_, X, G⟩ := V.ex; He.glo_ok X G (V.d.fact i h)
theorem Wd.free (V : Wd fa fn fb K mg) (i : Nat) {x : Str} (h : fa[i]? = some (.free x) := by rfl) : mg x = none := let ⟨_, X, G⟩ := V.ex; He.free_ok X G (V.d.fact i h)
theorem Wd.int (V : Wd fa fn fb K mg) (i : Nat) {x : Str} {n : Int} (h : fa[i]? = some (.int x n) := by rfl) : ∃ t, mg x = some (.int n t) := let ⟨_, X, G⟩ := V.ex; He.int_ok X G (V.d.fact i h)
theorem Wd.str (V : Wd fa fn fb K mg) (i : Nat) {x z : Str} (h : fa[i]? = some (.str x z) := by rfl) : ∃ t, mg x = some (.str z t) := let ⟨_, X, G⟩ := V.ex; He.str_ok X G (V.d.fact i h)
theorem Wd.cls (V : Wd fa fn fb K mg) (i : Nat) {x : Str} (h : fa[i]? = some (.cls x) := by rfl) : Cls K (He.ga K x) := He.cls_ok (V.d.fact i h)
theorem Wd.noat (V : Wd fa fn fb K mg) (i : Nat) {x f : Str} (h : fa[i]? = some (.noat x f) := by rfl) : NoAttr K (He.ga K x) f := He.noat_ok (V.d.fact i h)
theorem Wd.meth (V : Wd fa fn fb K mg) (i : Nat) {x m : Str} (h : fa[i]? = some (.meth x m) := by rfl) : Meth K (He.ga K x) m (He.ma K (He.ga K x) m) := He.meth_ok (V.d.fact i h)
theorem Wd.mkr (V : Wd fa fn fb K mg) (i : Nat) {x : Str} (h : fa[i]? = some (.mkr x) := by rfl) : Mk K (He.ga K x) (He.ma K (He.ga K x) "__init__") := He.mkr_ok (V.d.fact i h)
end
/-! ### a def's bundle -/
section
variable {P : Program} {w : World} {K : PySem.W.Frag} {mg : Str → Option Value} {base : Heap} {x qual : Str} {params : Arguments} {body : List Stmt} {scope : Scope} {dvs : List V} {kws : List (Str × V)} {f : Addr} {fd : FuncData} {N ps : List Str} {k : Nat} {den : En → SR}
/-- no defaults -/
theorem cal_A (F : FunD K x qual params body scope [] [] f fd) (S : FnScope N ps scope) (b : BodyOk P w K mg base k N qual scope f body den)
    (h : ∀ (kV doc pm : Value) (an : Option Addr) (cdv ct : Value) (us : List Value), us.length = ps.length → bindArgs (PySem.W.fnOf x qual params body scope .none kV doc pm an cdv ct) ⟨us, []⟩ = pure (ps.zip us)) :
    CalA P w K mg base (k + 1) f (runF N.length ps.length den) :=
  ⟨⟨fd, ps, [], [], [], _, fn_D F S b, F.bindsN h, .nil, fun _ => rfl, by funext as; rw [List.append_nil]⟩, F.kp⟩
theorem cal_B (F : FunD K x qual params body scope [] [] f fd) (S : FnScope N ps scope) (b : BodyOk P w K mg base k N qual scope f body den)
    (h : ∀ (kV doc pm : Value) (an : Option Addr) (cdv ct : Value) (us : List Value), us.length = ps.length → bindArgs (PySem.W.fnOf x qual params body scope .none kV doc pm an cdv ct) ⟨us, []⟩ = pure (ps.zip us)) :
    CalB P w K mg base (k + 1) f (runB N.length ps.length den) :=
  ⟨⟨fd, ps, [], [], [], _, fn_B F S b, F.bindsN h, .nil, fun _ => rfl, by funext d as; rw [List.append_nil]⟩, F.kp⟩
/-- the defaults from the j-th on are used -/
theorem cal_AD {dds : List D} (F : FunD K x qual params body scope dvs [] f fd) (S : FnScope N ps scope) (b : BodyOk P w K mg base k N qual scope f body den) (n j : Nat) (hd : dvs ≠ []) (hn : n + (dvs.length - j) = ps.length) (hdd : ∀ F, repL K mg F dds (dvs.drop j))
    (h : ∀ (T : Addr) (kV doc pm : Value) (an : Option Addr) (cdv ct : Value) (us its : List Value), us.length = n → its.length = dvs.length →
      ∃ k, bindArgs (PySem.W.fnOf x qual params body scope (.ref T) kV doc pm an cdv ct) ⟨us, []⟩ = seqItems? (.ref T) >>= k ∧ k (some its.toArray) = pure (ps.zip (us ++ its.drop j))) :
    CalA P w K mg base (k + 1) f (fun as => runF N.length ps.length den (as ++ dds)) := by
  obtain ⟨ds, hv, hb⟩ := F.binds1 n j hd hn h
  exact ⟨⟨fd, ps, ds, dvs.drop j, dds, _, fn_D F S b, hb, hv, hdd, rfl⟩, F.kp⟩
theorem cal_BD {dds : List D} (F : FunD K x qual params body scope dvs [] f fd) (S : FnScope N ps scope) (b : BodyOk P w K mg base k N qual scope f body den) (n j : Nat) (hd : dvs ≠ []) (hn : n + (dvs.length - j) = ps.length) (hdd : ∀ F, repL K mg F dds (dvs.drop j))
    (h : ∀ (T : Addr) (kV doc pm : Value) (an : Option Addr) (cdv ct : Value) (us its : List Value), us.length = n → its.length = dvs.length →
      ∃ k, bindArgs (PySem.W.fnOf x qual params body scope (.ref T) kV doc pm an cdv ct) ⟨us, []⟩ = seqItems? (.ref T) >>= k ∧ k (some its.toArray) = pure (ps.zip (us ++ its.drop j))) :
    CalB P w K mg base (k + 1) f (fun d as => runB N.length ps.length den d (as ++ dds)) := by
  obtain ⟨ds, hv, hb⟩ := F.binds1 n j hd hn h
  exact ⟨⟨fd, ps, ds, dvs.drop j, dds, _, fn_B F S b, hb, hv, hdd, rfl⟩, F.kp⟩
/-- the law -/
theorem law_sp {n : Nat} {den0 : List D → Res D} (hd : ∀ ns : List Int, ns.length ≤ n → den0 [.scr ns] = .ok (.bl true)) (H : Hp) (a : Addr) (ns : List Int) (hl : ns.length ≤ n) (hS : SqL K H a (ns.map V.int)) : spD K mg den0 [.ref a] H (fun v _ => v = .bl true) fun _ _ _ => False := by
  refine ⟨H, [.scr ns], Same.refl H, ⟨_, _, rfl, ⟨a, rfl, hS⟩, rfl⟩, ?_⟩
  rw [hd ns hl]
  exact fun v F' H' _ r => r
end
end Dl

set_option Elab.async false
set_option linter.all false
set_option maxRecDepth 100000
set_option maxHeartbeats 4000000
namespace Dl
open PySem L2

/-! ### defs that give a new object back -/
section
variable (K : PySem.W.Frag) (mg : Str → Option Value)
def PoR (W : WX) (B : Bg) (F : Hp) (Z : Ends) : Res (D × En) → Prop
  | .ok (d, r') => ∀ v σ' F' H', Rel K mg B F' H' r' σ' → Same F F' → rN K mg B σ' r' F' H' d v → Z.rt v H'
  | .er c fs r' => PoX K mg W B F c fs r'
  | .bad => False
def EntR (W : WX) (t : TS) (f : En → Res (D × En)) : Prop := ∀ B F H r σ Z, Rel K mg B F H r σ → PoR K mg W B F Z (f r) → t Z σ H
end
structure DNs (X : Cx) (W : WX) (st : List Stmt) (f : En → Res (D × En)) : Prop where
  ex : ∃ t, PSs X st t ∧ EntR X.K X.mg W t f
def nSeq (f : En → SR) (g : En → Res (D × En)) : En → Res (D × En) := fun r => match f r with
  | .nx r' => g r'
  | .er c fs r' => .er c fs r'
  | _ => .bad
/-- an owned slot is given away -/
def eMv (i : Nat) : En → Res (D × En) := fun r => match r[i]? with
  | some (some (.ow d)) => if noOwn d = true then .ok (d, r.set i none) else .bad
  | _ => .bad
section
variable {K : PySem.W.Frag} {mg : Str → Option Value} {W : WX} {B : Bg} {F F' H H' : Hp} {r : En} {σ : L2.St} {Z : Ends}
theorem PoR.weak {m : Res (D × En)} (h : PoR K mg W B F Z m) (e : Same F F') : PoR K mg W B F' Z m := by
  cases m with
  | ok a => exact fun v σ' F1 H1 R1 s x => h v σ' F1 H1 R1 (e.trans s) x
  | er c fs r' => exact PoX.weak h e
  | bad => exact h
theorem Rel.lay {i : Nat} (R : Rel K mg B F H r σ) : Rel K mg B F H (r.set i none) σ where
  fh := R.fh
  f0 := R.f0
  keep := R.keep
  fresh := R.fresh
  live := R.live
  len := by rw [List.length_set]; exact R.len
  slot := fun j s h => by
    rw [get_set] at h
    split at h
    · split at h <;> cases h
    · exact R.slot j s h
  apart := fun a b s t p q ne ha hb ms mt ea eb => by
    rw [get_set] at ha hb
    split at ha
    · split at ha <;> cases ha
    · split at hb
      · split at hb <;> cases hb
      · exact R.apart a b s t p q ne ha hb ms mt ea eb
/-- loose things may have changed -/
theorem Rel.growL {A : List Addr} (R : Rel K mg B F H r σ) (hA : ∀ a ∈ A, B.H a = none ∧ a ∉ B.bs ∧ Loose H r σ a) (g : Grow A F H F' H') : Rel K mg B F' H' r σ where
  fh := g.fh
  f0 := R.f0.trans g.f
  keep := fun a o hb h => g.h a o (fun z => by rw [(hA a z).1] at h; cases h) (R.keep a o hb h)
  fresh := fun a h1 h2 => by
    have h3 := R.fresh a h1 h2
    by_cases hb : a ∈ B.bs
    · exact g.fr a h3 (R.live a hb).1
    · cases q : B.H a with
      | none => exact absurd q h2
      | some o => exact g.fr a h3 (by rw [R.keep a o hb q]; exact fun z => nomatch z)
  live := fun a hb => by
    obtain ⟨h1, h2⟩ := R.live a hb
    refine ⟨?_, h2⟩
    cases q : H a with
    | none => exact absurd q h1
    | some o =>
      rw [g.h a o (fun z => (hA a z).2.1 hb) q]
      exact fun z => nomatch z
  len := R.len
  slot := fun i s h => (R.slot i s h).mono g.f fun m q e a ha => by
    obtain ⟨o, ho⟩ := fp_live s.d (R.own_at h m e).2.2 a ha
    exact ⟨by rw [ho]; exact g.h a o (fun z => (hA a z).2.2 i s q h m e ha) ho, fun z => g.fr a z (by rw [ho]; exact fun w => nomatch w)⟩
  apart := fun i j s t p q ne hi hj ms mt ei ej a ha => by
    have same : ∀ (i : Nat) (s : Sl) (p : Addr), r[i]? = some (some s) → s.mine = true → σ[i]? = some (some (.ref p)) → H' p = H p := fun i s p hi ms ei => by
      obtain ⟨o, ho⟩ := own_there s.d (R.own_at hi ms ei).2.2
      rw [ho]
      exact g.h p o (fun z => (hA p z).2.2 i s p hi ms ei fp_head) ho
    rw [fp_eq (same i s p hi ms ei)] at ha
    rw [fp_eq (same j t q hj mt ej)]
    exact R.apart i j s t p q ne hi hj ms mt ei ej a ha
end
section
variable {X : Cx} {W : WX} {st : Stmt} {rest : List Stmt} {f : En → SR} {g h : En → Res (D × En)} {e : Expr} {pos : Pos}
theorem dns_ret (hh : DN X W e h) : DNs X W [.Return (some e) pos] h := by
  obtain ⟨t, hp, he⟩ := hh.ex
  refine ⟨_, pss_one (ps_ret hp), fun B F H r σ Z R p => he B F H r σ _ R ?_⟩
  cases q : h r with
  | ok a =>
    rw [q] at p
    exact fun v F' H' R' s x => p v σ F' H' R' s x
  | er c fs r' =>
    rw [q] at p
    exact p
  | bad =>
    rw [q] at p
    exact p
theorem dns_cons (h1 : DS X W st f) (h2 : DNs X W rest g) : DNs X W (st :: rest) (nSeq f g) := by
  obtain ⟨t, hp, he⟩ := h1.ex
  obtain ⟨u, kp, ke⟩ := h2.ex
  refine ⟨_, pss_cons hp kp, fun B F H r σ Z R p => he B F H r σ _ R ?_⟩
  have p' : PoR X.K X.mg W B F Z (match f r with | .nx r' => g r' | .er c fs r' => .er c fs r' | _ => .bad) := p
  cases q : f r with
  | nx r' =>
    rw [q] at p'
    exact fun σ' F' H' R' s => ke B F' H' r' σ' Z R' (PoR.weak p' s)
  | er c fs r' =>
    rw [q] at p'
    exact p'
  | _ =>
    rw [q] at p'
    exact p'.elim
theorem dn_mv {i : Nat} {x : Str} (hN : X.N[i]? = some x := by rfl) (hv : Vis X.env.scope x := by first | exact Or.inl rfl | exact Or.inr (Or.inl rfl) | exact Or.inr (Or.inr rfl)) (hd : (x == ("__debug__" : Str)) = false := by decide)
    (hc : (x == ("__classdict__" : Str)) = false := by decide) : DN X W (.Name x pos) (eMv i) := by
  refine ⟨_, pe_var hN hv hd hc, fun B F H r σ Q R p => ?_⟩
  unfold eMv at p
  split at p
  · rename_i d e
    obtain ⟨pa, e1, hA, nd, h4⟩ := R.slot i _ e
    by_cases no : noOwn d = true
    · rw [if_pos no] at p
      obtain ⟨h1, h2, h3⟩ := hA pa fp_head
      refine ⟨_, e1, p _ F H R.lay (Same.refl F) ⟨pa, rfl, h1, h2, h3, fun j s q hj mj ej => ?_, ownS_of no h4⟩⟩
      rw [get_set] at hj
      split at hj
      · split at hj <;> cases hj
      · rename_i ne
        exact R.apart i j _ s pa q ne e hj rfl mj e1 ej pa fp_head
    · rw [if_neg no] at p
      exact p.elim
  · exact p.elim
end
section
variable (K : PySem.W.Frag) (mg : Str → Option Value)
def PoFN (F H : Hp) (Q : VK) (E : XK) : Res D → Prop
  | .ok d => ∀ p F' H', Grow [] F H F' H' → F' p = none → H p = none → ownS K mg F' H' p d → Q (.ref p) H'
  | .er c fs _ => ∀ C od F' H', mg c = some (.ref C) → Grow [] F H F' H' → xdOk K mg F' H' fs od → E (.ref C) od H'
  | .bad => False
def spN (den : List D → Res D) : Sp := fun vs H Q E => ∃ F ds, Same F H ∧ repL K mg F ds vs ∧ PoFN K mg F H Q E (den ds)
end
def runN (n np : Nat) (f : En → Res (D × En)) (ds : List D) : Res D := if ds.length = np then (match f (startE n ds) with
  | .ok (d, _) => .ok d
  | .er c fs r => .er c fs r
  | .bad => .bad) else .bad
def BodyNew (P : Program) (w : World) (K : PySem.W.Frag) (mg : Str → Option Value) (base : Heap) (k : Nat) (N : List Str) (qual : Str) (scope : Scope) (f : Addr) (body : List Stmt) (den : En → Res (D × En)) : Prop :=
  ∀ (cdv : Value) (A : Around) (outer : List Env) (s : Shared) (H : Hp) (E : XK), Room k (A.deeper (PyProof.Rows.envOfC qual scope s.heap.objs.size f cdv)) →
    DNs (cxOf (L2.CX P w) P w K mg base N qual scope f cdv A outer s H E) (fun c d _ H' => E c d H') body den
section
variable (P : Program) (w : World) (K : PySem.W.Frag) (mg : Str → Option Value) (base : Heap)
structure CalN (k : Nat) (f : Addr) (den : List D → Res D) : Prop where
  ex : ∃ (fd : FuncData) (ps : List Str) (ds : List Value) (dvs : List V) (dds : List D) (den0 : List D → Res D), FnOk P w K mg base (L2.CX P w) k f fd ps (spN K mg den0) ∧ Binds K fd ps ds ∧ Vals dvs ds ∧ (∀ F, repL K mg F dds dvs) ∧ den = fun as => den0 (as ++ dds)
  kp : PySem.W.keepIn K (.ref f) = true
end
section
variable {P : Program} {w : World} {K : PySem.W.Frag} {mg : Str → Option Value} {base : Heap} {x qual : Str} {params : Arguments} {body : List Stmt} {scope : Scope} {dvs : List V} {kws : List (Str × V)} {f : Addr} {fd : FuncData} {N ps : List Str} {k : Nat} {den : En → Res (D × En)}
theorem fn_N (F : FunD K x qual params body scope dvs kws f fd) (S : FnScope N ps scope) (b : BodyNew P w K mg base k N qual scope f body den) : FnOk P w K mg base (L2.CX P w) (k + 1) f fd ps (spN K mg (runN N.length ps.length den)) := by
  refine fun_ok F S (fun vs H Q E h => ?_) (fun cdv A outer s H vs Q E hr h => ?_)
  · obtain ⟨F', ds, _, r, p⟩ := h
    rw [repL_len r]
    unfold runN at p
    split at p
    · assumption
    · exact p.elim
  · obtain ⟨F', ds, s', r, p⟩ := h
    obtain ⟨t, hp, he⟩ := (b cdv A outer s H E hr).ex
    refine ⟨t, hp, he ⟨F', H, []⟩ F' H _ _ _ (rel_start s' r) ?_⟩
    unfold runN at p
    split at p
    · cases q : den (startE N.length ds) with
      | ok a =>
        rw [q] at p
        rintro v σ' F1 H1 R1 s1 ⟨pa, rfl, h1, h2, h3, h4, h5⟩
        exact p pa F1 H1 ⟨fun a o _ h => R1.keep a o (by simp) h, s1, R1.fh, R1.fresh⟩ h1 h2 h5
      | er c fs r' =>
        rw [q] at p
        exact fun C od σ' F1 H1 m R1 s1 x => p C od F1 H1 m ⟨fun a o _ h => R1.keep a o (by simp) h, s1, R1.fh, R1.fresh⟩ x
      | bad =>
        rw [q] at p
        exact p.elim
    · exact p.elim
theorem cal_N (F : FunD K x qual params body scope [] [] f fd) (S : FnScope N ps scope) (b : BodyNew P w K mg base k N qual scope f body den)
    (h : ∀ (kV doc pm : Value) (an : Option Addr) (cdv ct : Value) (us : List Value), us.length = ps.length → bindArgs (PySem.W.fnOf x qual params body scope .none kV doc pm an cdv ct) ⟨us, []⟩ = pure (ps.zip us)) :
    CalN P w K mg base (k + 1) f (runN N.length ps.length den) :=
  ⟨⟨fd, ps, [], [], [], _, fn_N F S b, F.bindsN h, .nil, fun _ => rfl, by funext as; rw [List.append_nil]⟩, F.kp⟩
end
def fstR : Res (D × D) → Res D
  | .ok p => .ok p.1
  | .er c fs r => .er c fs r
  | .bad => .bad
def eCallBN (den : D → List D → Res (D × D)) (fe : En → Res (D × En)) : En → Res (D × En) := fun r => (fe r).bind fun p => callR (fstR (den p.1 [])) p.2
section
variable {X : Cx} {W : WX} {k j : Nat} {f C : Addr} {x : Str} {p pos : Pos} {e : Expr} {es : List Expr} {fa : En → Res (List D × En)} {fe : En → Res (D × En)} {den : List D → Res D} {denB : D → List D → Res (D × D)}
theorem dn_callN (F : CalN X.prog X.w X.K X.mg X.base k f den) (tk : Takes X W) (hr : Room j X.A) (hk : k ≤ j) (hg : Gl X x) (hm : X.mg x = some (.ref f)) (ha : DA X W (e :: es) fa) (hdb : (x == ("__debug__" : Str)) = false := by decide)
    (he : starEach (e :: es) X.env = (false, eval e X.env) :: starEach es X.env := by rfl) (hpl : (backTo pos (starEach es X.env)).any (·.1) = false := by rfl) : DN X W (.Call (.Name x p) (e :: es) [] pos) (eCall den fa) := by
  obtain ⟨fd, ps, ds, dvs, dds, den0, G, hb, hd, hdd, rfl⟩ := F.ex
  obtain ⟨t, pa, ea⟩ := ha.ex
  refine ⟨_, pe_callSD (E := WE W) G (hr.mono hk) hg hm F.kp hb hd (fun σ => passAt tk σ) pa hdb he hpl, fun B F H r σ Q R p => ea.to R p fun as r1 vs F1 H1 R1 s1 x1 p1 => ?_⟩
  refine ⟨F1, as ++ dds, R1.fh, repL_app x1 (hdd F1), ?_⟩
  cases q : den0 (as ++ dds) with
  | ok d =>
    simp only [q] at p1
    exact fun pa F' H' g h1 h2 h3 => p1 _ F' H' (R1.growN g) g.f ⟨pa, rfl, h1, (R1.new_ne h2).1, (R1.new_ne h2).2, R1.loose_grow (fun a o h => g.h a o List.not_mem_nil h) (R1.loose_new0 h2), h3⟩
  | er c fs r' =>
    simp only [q] at p1
    exact fun C od F' H' m g x => p1 C od σ F' H' m (R1.growN g) g.f x
  | bad =>
    simp only [q] at p1
    exact p1.elim
/-- f(e), e a new object that f may change -/
theorem de_callBN (F : CalB X.prog X.w X.K X.mg X.base k f denB) (tk : Takes X W) (hr : Room j X.A) (hk : k ≤ j) (hg : Gl X x) (hm : X.mg x = some (.ref f)) (ha : DN X W e fe) (hdb : (x == ("__debug__" : Str)) = false := by decide)
    (he : starEach [e] X.env = (false, eval e X.env) :: starEach [] X.env := by rfl) (hpl : (backTo pos (starEach [] X.env)).any (·.1) = false := by rfl) : DE X W (.Call (.Name x p) [e] [] pos) (eCallBN denB fe) := by
  obtain ⟨fd, ps, ds, dvs, dds, den0, G, hb, hd, hdd, rfl⟩ := F.ex
  obtain ⟨t, pa, ea⟩ := ha.ex
  refine ⟨_, pe_callSD (E := WE W) G (hr.mono hk) hg hm F.kp hb hd (fun σ => passAt tk σ) (pa_cons pa pa_nil he) hdb he hpl, fun B F H r σ Q R p => ea.to R p fun d r1 v F1 H1 R1 s1 x1 p1 => ?_⟩
  obtain ⟨pa, rfl, hF, hB, nb, hl, ho⟩ := x1
  have e1 : fp H1 pa d = [pa] := fp_one (ownS_no ho)
  have hA : ∀ a ∈ [pa], B.H a = none ∧ a ∉ B.bs ∧ Loose H1 r1 σ a := fun a ha => by
    rw [List.mem_singleton.mp ha]
    exact ⟨hB, nb, hl⟩
  refine ⟨F1, pa, d, dds, dvs, rfl, R1.fh, fun a ha => ?_, by rw [e1]; simp, ownS_at ho, hdd F1, ?_⟩
  · rw [e1] at ha
    rw [List.mem_singleton.mp ha]
    exact hF
  rw [e1]
  have p2 : Po X.K X.mg W B F1 σ (rE X.K X.mg) Q (callR (fstR (den0 d dds)) r1) := p1
  cases q : den0 d dds with
  | ok dd =>
    obtain ⟨d', d1⟩ := dd
    rw [q] at p2
    exact fun v F' H' g _ _ _ _ x => p2 v F' H' (R1.growL hA g) g.f x
  | er c fs r' =>
    rw [q] at p2
    exact fun C od F' H' mm g hz x => p2 C od σ F' H' mm (R1.growL hA g) g.f x
  | bad =>
    rw [q] at p2
    exact p2.elim
end
end Dl

set_option Elab.async false
set_option linter.all false
set_option maxRecDepth 100000
set_option maxHeartbeats 4000000
namespace Dl
open PySem L2
section
variable {P : Program} {w : World} {K : PySem.W.Frag} {mg : Str → Option Value} {base : Heap} {N : List Str} {qual : Str} {scope : Scope} {f : Addr} {cdv : Value} {A : Around} {outer : List Env} {s : Shared} {H : Hp} {E : XK}
theorem tk_def : Takes (cxOf (L2.CX P w) P w K mg base N qual scope f cdv A outer s H E) (fun c d _ H' => E c d H') := takes_of (X := cxOf (L2.CX P w) P w K mg base N qual scope f cdv A outer s H E) rfl rfl rfl rfl
theorem own_def : PassesOwn (model P w) (cxOf (L2.CX P w) P w K mg base N qual scope f cdv A outer s H E).A (cxOf (L2.CX P w) P w K mg base N qual scope f cdv A outer s H E).env (cxOf (L2.CX P w) P w K mg base N qual scope f cdv A outer s H E).xe :=
  passes_of (X := cxOf (L2.CX P w) P w K mg base N qual scope f cdv A outer s H E) (K := fun e s'' => L2.CX P w outer H s E e s'') (E₁ := fun e' s'' => L2.CX P w outer H s E e' s'') rfl
end
theorem Room.u1 {k : Nat} {A : Around} (r : Room k A) : A.units + 1 < cLine := by have := r.un; omega
def sPar (i j : Nat) (fa : En → Res (List D × En)) : En → SR := fun r => sBind (fa r) fun p => match p.1 with
  | [a, b] => .nx ((p.2.set i (some (.fz a))).set j (some (.fz b)))
  | _ => .bad
section
variable {X : Cx} {W : WX}
theorem ds_par {i j : Nat} {x y : Str} {a b : Expr} {fa : En → Res (List D × En)} {px py pt pos : Pos} {kt k2 pt2} (hc : X.calm = true) (hN : X.N.Nodup) (ha : DA X W [a, b] fa) (hij : i ≠ j := by decide) (hi : X.N[i]? = some x := by rfl) (hj : X.N[j]? = some y := by rfl)
    (hx : X.env.scope.names.lookup x = some .local := by rfl) (hy : X.env.scope.names.lookup y = some .local := by rfl)
    (hw : swappedStores [.Tuple [.Name x px, .Name y py] kt pt] (.Tuple [a, b] k2 pt2) X.env = pure (some [x, y]) := by rfl)
    (hs : swapsWithSole [.Tuple [.Name x px, .Name y py] kt pt] (.Tuple [a, b] k2 pt2) pos.line X.env = pure false := by rfl) :
    DS X W (.Assign [.Tuple [.Name x px, .Name y py] kt pt] (.Tuple [a, b] k2 pt2) pos) (sPar i j fa) := by
  obtain ⟨t, hp, he⟩ := ha.ex
  refine ⟨_, ps_par hc hN hi hj hij hx hy hp hw hs, fun B F H r σ Z R p => he.toS R p fun ds r' vs F' H' R' s x q => ?_⟩
  cases ds with
  | nil => exact q.elim
  | cons d1 ds =>
    cases ds with
    | nil => exact q.elim
    | cons d2 ds =>
      cases ds with
      | nil =>
        obtain ⟨v1, _, rfl, x1, v2, _, rfl, x2, rfl⟩ := x
        exact ⟨v1, v2, rfl, q _ F' H' ((R'.setF x1).setF x2) (Same.refl F')⟩
      | cons _ _ => exact q.elim
end
end Dl

set_option Elab.async false
set_option linter.all false
set_option maxRecDepth 100000
set_option maxHeartbeats 4000000
namespace Dl
open PySem L2
/-- no exception leaves the law -/
theorem no_exc {P : Program} {w : World} {K : PySem.W.Frag} {mg : Str → Option Value} {base : Heap} {k : Nat} {f : Addr} {fd : FuncData} {ps : List Str} {sp : Sp} (F : FnOk P w K mg base (L2.CX P w) k f fd ps sp) : FnOk P w K mg base L2.CX0 k f fd ps (fun vs H Q _ => sp vs H Q fun _ _ _ => False) :=
  ⟨fun vs H Q _ h => F.len vs H Q _ h, fun A outer s H args us vs Q _ hr he hb hv hs => codeAny_mono (F.run A outer s H args us vs Q _ hr he hb hv hs) fun r s' hq => by
    cases r with
    | error e =>
      obtain ⟨_, _, _, _, _, _, _, _, _, _, _, _, z⟩ := hq
      exact z.elim
    | ok fl =>
      cases fl with
      | ret u => exact hq
      | next => exact hq.elim
      | brk => exact hq.elim
      | cont => exact hq.elim⟩
/-- a law's def, from its body -/
theorem law_fn {P : Program} {w : World} {K : PySem.W.Frag} {mg : Str → Option Value} {base : Heap} {x qual : Str} {params : Arguments} {body : List Stmt} {scope : Scope} {f : Addr} {fd : FuncData} {N : List Str} {p : Str} {k : Nat} {den : En → SR}
    (F : FunD K x qual params body scope [] [] f fd) (S : FnScope N [p] scope) (b : BodyOk P w K mg base k N qual scope f body den) : FnOk P w K mg base L2.CX0 (k + 1) f fd [p] (fun vs H Q _ => spD K mg (runF N.length 1 den) vs H Q fun _ _ _ => False) := no_exc (fn_D F S b)
end Dl

set_option Elab.async false
set_option linter.all false
set_option maxRecDepth 100000
set_option maxHeartbeats 4000000
namespace Dl
open PySem L2

/-! ### calls with keywords -/
abbrev Sel : Type := List (Nat × Nat)
def pick1 {α : Type} (us its ws : List α) (q : Nat × Nat) : Option α := match q.1 with
  | 0 => us[q.2]?
  | 1 => its[q.2]?
  | _ => ws[q.2]?
def pickL {α : Type} (sel : Sel) (us its ws : List α) : List α := sel.filterMap (pick1 us its ws)
theorem vals_get {vs : List V} {us : List Value} (h : Vals vs us) (i : Nat) : (vs[i]? = none ∧ us[i]? = none) ∨ ∃ v u, vs[i]? = some v ∧ us[i]? = some u ∧ RelV v u := by
  cases e : vs[i]? with
  | none =>
    left
    refine ⟨rfl, ?_⟩
    rw [List.getElem?_eq_none_iff] at e ⊢
    rw [← h.length]
    exact e
  | some v =>
    right
    obtain ⟨u, hu, r⟩ := h.get e
    exact ⟨v, u, rfl, hu, r⟩
theorem pick_vals {vs ds zs : List V} {us its ws : List Value} (h1 : Vals vs us) (h2 : Vals ds its) (h3 : Vals zs ws) : ∀ sel : Sel, Vals (pickL sel vs ds zs) (pickL sel us its ws)
  | [] => .nil
  | q :: sel => by
    have key : (pick1 vs ds zs q = none ∧ pick1 us its ws q = none) ∨ ∃ v u, pick1 vs ds zs q = some v ∧ pick1 us its ws q = some u ∧ RelV v u := by
      unfold pick1
      split
      · exact vals_get h1 _
      · exact vals_get h2 _
      · exact vals_get h3 _
    have ih := pick_vals h1 h2 h3 sel
    unfold pickL at ih ⊢
    rw [List.filterMap_cons, List.filterMap_cons]
    rcases key with ⟨e1, e2⟩ | ⟨v, u, e1, e2, r⟩
    · rw [e1, e2]
      exact ih
    · rw [e1, e2]
      exact .cons r ih
theorem rep_get2 {K : PySem.W.Frag} {mg : Str → Option Value} {F : Hp} {ds : List D} {vs : List V} (h : repL K mg F ds vs) (i : Nat) : (ds[i]? = none ∧ vs[i]? = none) ∨ ∃ d v, ds[i]? = some d ∧ vs[i]? = some v ∧ rep K mg F d v := by
  cases e : ds[i]? with
  | none =>
    left
    refine ⟨rfl, ?_⟩
    rw [List.getElem?_eq_none_iff] at e ⊢
    rw [repL_len h]
    exact e
  | some d =>
    right
    obtain ⟨v, hv, r⟩ := repL_get h e
    exact ⟨d, v, rfl, hv, r⟩
theorem pick_rep {K : PySem.W.Frag} {mg : Str → Option Value} {F : Hp} {as dds zs : List D} {vs dvs ws : List V} (h1 : repL K mg F as vs) (h2 : repL K mg F dds dvs) (h3 : repL K mg F zs ws) : ∀ sel : Sel, repL K mg F (pickL sel as dds zs) (pickL sel vs dvs ws)
  | [] => rfl
  | q :: sel => by
    have key : (pick1 as dds zs q = none ∧ pick1 vs dvs ws q = none) ∨ ∃ d v, pick1 as dds zs q = some d ∧ pick1 vs dvs ws q = some v ∧ rep K mg F d v := by
      unfold pick1
      split
      · exact rep_get2 h1 _
      · exact rep_get2 h2 _
      · exact rep_get2 h3 _
    have ih := pick_rep h1 h2 h3 sel
    unfold pickL at ih ⊢
    rw [List.filterMap_cons, List.filterMap_cons]
    rcases key with ⟨e1, e2⟩ | ⟨v, u, e1, e2, r⟩
    · rw [e1, e2]
      exact ih
    · rw [e1, e2]
      exact ⟨u, _, rfl, r, ih⟩
section
variable (P : Program) (w : World) (K : PySem.W.Frag) (mg : Str → Option Value) (base : Heap)
/-- a def called with n values and the keywords ks -/
structure KalA (k : Nat) (f : Addr) (n : Nat) (ks : List Str) (den : List D → List D → Res D) : Prop where
  ex : ∃ (fd : FuncData) (ps : List Str) (its : List Value) (dvs : List V) (dds : List D) (den0 : List D → Res D) (sel : Sel), FnOk P w K mg base (L2.CX P w) k f fd ps (spD K mg den0) ∧
    KBn K fd ps n ks (fun us ws => pickL sel us its ws) (fun vs zs => pickL sel vs dvs zs) ∧ (∀ F, repL K mg F dds dvs) ∧ den = fun as zs => den0 (pickL sel as dds zs)
  kp : PySem.W.keepIn K (.ref f) = true
/-- .. whose first parameter is its own object's (an __init__) -/
structure KalB (k : Nat) (f : Addr) (n : Nat) (ks : List Str) (den : D → List D → List D → Res (D × D)) : Prop where
  ex : ∃ (fd : FuncData) (ps : List Str) (its : List Value) (dvs : List V) (dds : List D) (den0 : D → List D → Res (D × D)) (sel sel2 : Sel), FnOk P w K mg base (L2.CX P w) k f fd ps (spB K mg den0) ∧
    KBn K fd ps (n + 1) ks (fun us ws => pickL sel us its ws) (fun vs zs => pickL sel vs dvs zs) ∧ (∀ F, repL K mg F dds dvs) ∧ (∀ (x : V) (us zs : List V), pickL sel (x :: us) dvs zs = x :: pickL sel2 us dvs zs) ∧ den = fun d as zs => den0 d (pickL sel2 as dds zs)
  kp : PySem.W.keepIn K (.ref f) = true
end
section
variable {P : Program} {w : World} {K : PySem.W.Frag} {mg : Str → Option Value} {base : Heap} {x qual : Str} {params : Arguments} {body : List Stmt} {scope : Scope} {dvs : List V} {f : Addr} {fd : FuncData} {N ps ks : List Str} {k n : Nat} {den : En → SR}
theorem kbn0 {sel : Sel} (F : FunD K x qual params body scope [] [] f fd) (n : Nat) (ks : List Str)
    (h : ∀ (kV doc pm : Value) (an : Option Addr) (cdv ct : Value) (us ws : List Value), us.length = n → ws.length = ks.length → bindArgs (PySem.W.fnOf x qual params body scope .none kV doc pm an cdv ct) ⟨us, ks.zip ws⟩ = pure (ps.zip (pickL sel us [] ws))) :
    KBn K fd ps n ks (fun us ws => pickL sel us [] ws) (fun vs zs => pickL sel vs [] zs) := by
  obtain ⟨oc, od, dV, kV, doc, pm, an, cdv, ct, osl, rfl, lk, hcd, hD, hK⟩ := F.ex
  rcases hD with ⟨_, rfl⟩ | ⟨e, _⟩
  · exact ⟨fun s us ws X l1 l2 => .of_eq (h kV doc pm an cdv ct us ws l1 l2), fun r1 r2 => pick_vals r1 .nil r2 sel⟩
  · exact absurd rfl e
theorem kal_A (sel : Sel) (F : FunD K x qual params body scope [] [] f fd) (S : FnScope N ps scope) (b : BodyOk P w K mg base k N qual scope f body den) (n : Nat) (ks : List Str)
    (h : ∀ (kV doc pm : Value) (an : Option Addr) (cdv ct : Value) (us ws : List Value), us.length = n → ws.length = ks.length → bindArgs (PySem.W.fnOf x qual params body scope .none kV doc pm an cdv ct) ⟨us, ks.zip ws⟩ = pure (ps.zip (pickL sel us [] ws))) :
    KalA P w K mg base (k + 1) f n ks (fun as zs => runF N.length ps.length den (pickL sel as [] zs)) :=
  ⟨⟨fd, ps, [], [], [], _, sel, fn_D F S b, kbn0 F n ks h, fun _ => rfl, rfl⟩, F.kp⟩
theorem kal_B (sel sel2 : Sel) (F : FunD K x qual params body scope [] [] f fd) (S : FnScope N ps scope) (b : BodyOk P w K mg base k N qual scope f body den) (n : Nat) (ks : List Str) (hs : ∀ (x : V) (us zs : List V), pickL sel (x :: us) [] zs = x :: pickL sel2 us [] zs)
    (h : ∀ (kV doc pm : Value) (an : Option Addr) (cdv ct : Value) (us ws : List Value), us.length = n + 1 → ws.length = ks.length → bindArgs (PySem.W.fnOf x qual params body scope .none kV doc pm an cdv ct) ⟨us, ks.zip ws⟩ = pure (ps.zip (pickL sel us [] ws))) :
    KalB P w K mg base (k + 1) f n ks (fun d as zs => runB N.length ps.length den d (pickL sel2 as [] zs)) :=
  ⟨⟨fd, ps, [], [], [], _, sel, sel2, fn_B F S b, kbn0 F (n + 1) ks h, fun _ => rfl, hs, rfl⟩, F.kp⟩
theorem kal_AD {dds : List D} (sel : Sel) (F : FunD K x qual params body scope dvs [] f fd) (S : FnScope N ps scope) (b : BodyOk P w K mg base k N qual scope f body den) (n : Nat) (ks : List Str) (hd : dvs ≠ []) (hdd : ∀ F, repL K mg F dds dvs)
    (h : ∀ (T : Addr) (kV doc pm : Value) (an : Option Addr) (cdv ct : Value) (us its ws : List Value), us.length = n → its.length = dvs.length → ws.length = ks.length →
      ∃ k, bindArgs (PySem.W.fnOf x qual params body scope (.ref T) kV doc pm an cdv ct) ⟨us, ks.zip ws⟩ = seqItems? (.ref T) >>= k ∧ k (some its.toArray) = pure (ps.zip (pickL sel us its ws))) :
    KalA P w K mg base (k + 1) f n ks (fun as zs => runF N.length ps.length den (pickL sel as dds zs)) := by
  obtain ⟨its, hb⟩ := F.kbindsD n ks (pickL sel) hd (fun r1 r2 r3 => pick_vals r1 r2 r3 sel) h
  exact ⟨⟨fd, ps, its, dvs, dds, _, sel, fn_D F S b, hb, hdd, rfl⟩, F.kp⟩
theorem kal_BD {dds : List D} (sel sel2 : Sel) (F : FunD K x qual params body scope dvs [] f fd) (S : FnScope N ps scope) (b : BodyOk P w K mg base k N qual scope f body den) (n : Nat) (ks : List Str) (hd : dvs ≠ []) (hdd : ∀ F, repL K mg F dds dvs) (hs : ∀ (x : V) (us zs : List V), pickL sel (x :: us) dvs zs = x :: pickL sel2 us dvs zs)
    (h : ∀ (T : Addr) (kV doc pm : Value) (an : Option Addr) (cdv ct : Value) (us its ws : List Value), us.length = n + 1 → its.length = dvs.length → ws.length = ks.length →
      ∃ k, bindArgs (PySem.W.fnOf x qual params body scope (.ref T) kV doc pm an cdv ct) ⟨us, ks.zip ws⟩ = seqItems? (.ref T) >>= k ∧ k (some its.toArray) = pure (ps.zip (pickL sel us its ws))) :
    KalB P w K mg base (k + 1) f n ks (fun d as zs => runB N.length ps.length den d (pickL sel2 as dds zs)) := by
  obtain ⟨its, hb⟩ := F.kbindsD (n + 1) ks (pickL sel) hd (fun r1 r2 r3 => pick_vals r1 r2 r3 sel) h
  exact ⟨⟨fd, ps, its, dvs, dds, _, sel, sel2, fn_B F S b, hb, hdd, hs, rfl⟩, F.kp⟩
end
/-! the keywords' values -/
structure DK (X : Cx) (W : WX) (kws : List Keyword) (f : En → Res (List D × En)) : Prop where
  ex : ∃ t, PK X kws t ∧ Ent X.K X.mg W (rA X.K X.mg) t f
def eCallK (n m : Nat) (den : List D → List D → Res D) (fa fk : En → Res (List D × En)) : En → Res (D × En) := fun r => (fa r).bind fun p => (fk p.2).bind fun q => if p.1.length = n ∧ q.1.length = m then callR (den p.1 q.1) q.2 else .bad
def eMethK (c m : Str) (n j : Nat) (den : List D → List D → Res D) (fo : En → Res (D × En)) (fa fk : En → Res (List D × En)) : En → Res (D × En) := fun r => (fo r).bind fun o => match o.1 with
  | .ins c' fs => if c' = c ∧ hasNo fs m = true then (fa o.2).bind fun p => (fk p.2).bind fun q => if p.1.length + 1 = n ∧ q.1.length = j then callR (den (.ins c' fs :: p.1) q.1) q.2 else .bad else .bad
  | _ => .bad
def eMakeK (c : Str) (n m : Nat) (den : D → List D → List D → Res (D × D)) (fa fk : En → Res (List D × En)) : En → Res (D × En) := fun r => (fa r).bind fun p => (fk p.2).bind fun q => if p.1.length = n ∧ q.1.length = m then (match den (.ins c []) p.1 q.1 with
  | .ok (.non, d1) => .ok (d1, q.2)
  | .er c' fs _ => .er c' fs q.2
  | _ => .bad) else .bad
section
variable {X : Cx} {W : WX} {CX : CXT} {k j n : Nat} {f C : Addr} {fd : FuncData} {ps ks : List Str} {sp : Sp} {E : L2.St → XK} {x m c : Str} {p pos apos kpos : Pos} {e o : Expr} {es : List Expr} {kws : List Keyword} {t tk ta : TA} {te : TE} {nm : Option Str} {g : List Value → List Value → List Value} {gV : List V → List V → List V}
  {fa fk : En → Res (List D × En)} {h : En → Res (D × En)}
theorem dk_nil : DK X W [] aNil := ⟨_, pk_nil, fun B F H r σ Q R p => p [] F H R (Same.refl F) rfl⟩
theorem dk_cons {gs : En → Res (List D × En)} (hh : DE X W e h) (hr : DK X W kws gs) : DK X W (⟨nm, e, kpos⟩ :: kws) (aCons h gs) := by
  obtain ⟨t, hp, he⟩ := hh.ex
  obtain ⟨u, kp, ke⟩ := hr.ex
  refine ⟨_, pk_cons hp kp, fun B F H r σ Q R p => he.to R p fun d r1 v F1 H1 R1 s1 x1 p1 => ke.to R1 p1 fun ds r2 vs F2 H2 R2 s2 x2 p2 => ?_⟩
  exact p2 _ F2 H2 R2 (Same.refl F2) ⟨v, vs, rfl, rep_mono s2 _ _ x1, x2⟩
theorem run_fnKS {pins : List (Addr × Obj)} {σ : L2.St} {H : Hp} {s : Shared} {Q : VK} {us ws : List Value} {vs zs : List V} (F : FnOk X.prog X.w X.K X.mg X.base CX k f fd ps sp) (hr : Room k X.A) (hb : KBn X.K fd ps n ks g gV) (hx : PassesAt CX X σ (E σ))
    (I : Inv X pins σ H s) (r : Vals vs us) (rz : Vals zs ws) (l1 : vs.length = n) (l2 : zs.length = ks.length) (h : sp (gV vs zs) H Q (E σ)) : wpAny (model X.prog X.w) X.A (call (.ref f) us (ks.zip ws)) (EP X pins σ Q) X.xe s := by
  have r2 := hb.rel r rz
  refine wpAny_call (codeAny_mono (F.run X.A X.stack s H ⟨us, ks.zip ws⟩ (g us ws) (gV vs zs) Q (E σ) hr I.env0 (hb.to s us ws I.kIn (r.length.symm.trans l1) (rz.length.symm.trans l2)) r2 h) fun r s' hq => ?_)
  cases r with
  | error e => exact hx pins H s e s' I hq
  | ok fl =>
    cases fl with
    | ret u => exact I.after hq
    | next => exact False.elim hq
    | brk => exact False.elim hq
    | cont => exact False.elim hq
end
end Dl

set_option Elab.async false
set_option linter.all false
set_option maxRecDepth 100000
set_option maxHeartbeats 4000000
namespace Dl
open PySem L2
section
variable {X : Cx} {W : WX} {k j n : Nat} {f C : Addr} {ks : List Str} {x m c : Str} {p pos apos kpos : Pos} {e o : Expr} {es : List Expr} {kws : List Keyword} {nm : Option Str}
  {fa fk : En → Res (List D × En)} {fo : En → Res (D × En)} {den : List D → List D → Res D} {denB : D → List D → List D → Res (D × D)}
/-- f(e, .., k = v, ..) -/
theorem de_callK (F : KalA X.prog X.w X.K X.mg X.base k f n ks den) (tk : Takes X W) (hr : Room j X.A) (hk : k ≤ j) (hg : Gl X x) (hm : X.mg x = some (.ref f)) (ha : DA X W (e :: es) fa) (hw : DK X W kws fk)
    (hall : (backToKw pos (keywordEach kws X.env)).all (·.1.isSome) = true := by rfl) (hks : (backToKw pos (keywordEach kws X.env)).filterMap (·.1) = ks := by rfl)
    (hdb : (x == ("__debug__" : Str)) = false := by decide) (he : starEach (e :: es) X.env = (false, eval e X.env) :: starEach es X.env := by rfl)
    (hpl : ((backTo pos (starEach (e :: es) X.env)).any (·.1) || (backToKw pos (keywordEach kws X.env)).any (·.1.isNone)) = false := by rfl) :
    DE X W (.Call (.Name x p) (e :: es) kws pos) (eCallK n ks.length den fa fk) := by
  obtain ⟨fd, ps, its, dvs, dds, den0, sel, G, hb, hdd, rfl⟩ := F.ex
  obtain ⟨t, pa, ea⟩ := ha.ex
  obtain ⟨u, pk, ek⟩ := hw.ex
  refine ⟨fun σ H Q => t σ H fun vs H1 => u σ H1 fun zs H2 => vs.length = n ∧ zs.length = ks.length ∧ spD X.K X.mg den0 (pickL sel vs dvs zs) H2 Q (WE W σ), ⟨fun pins s σ H Q I h => ?_⟩, fun B F H r σ Q R p => ?_⟩
  · refine wpAny_Call_Name_kw (ld_glob I hg hm ?_ hdb)
    refine PySem.W.callWith_KW (h₀ := X.base) I.ok.mod.kin F.kp hall (thn (pa.run pos pins s σ H _ I h) fun us s1 ⟨vs, H1, I1, r, q⟩ => ?_) hpl he
    refine thn (pk.run pos pins s1 σ H1 _ I1 q) fun ws s2 ⟨zs, H2, I2, rz, l1, l2, q2⟩ => ⟨I2.kIn, ?_⟩
    rw [hks]
    exact run_fnKS (E := WE W) G (hr.mono hk) hb (passAt tk σ) I2 r rz l1 l2 q2
  · refine ea.to R p fun as r1 vs F1 H1 R1 s1 x1 p1 => ek.to R1 p1 fun zs r2 ws F2 H2 R2 s2 x2 p2 => ?_
    by_cases hl : as.length = n ∧ zs.length = ks.length
    · simp only [if_pos hl] at p2
      refine ⟨(repL_len x1).trans hl.1, (repL_len x2).trans hl.2, ?_⟩
      have := call_po (den0 := den0) (dds := []) (dvs := []) R2 (pick_rep (repL_mono s2 _ _ x1) (hdd F2) x2 sel) (fun _ => rfl) (by rw [List.append_nil]; exact p2)
      rw [List.append_nil] at this
      exact this
    · simp only [if_neg hl] at p2
      exact p2.elim
/-- f(k = v, ..) -/
theorem de_callK0 (F : KalA X.prog X.w X.K X.mg X.base k f 0 ks den) (tk : Takes X W) (hr : Room j X.A) (hk : k ≤ j) (hg : Gl X x) (hm : X.mg x = some (.ref f)) (hw : DK X W kws fk)
    (hall : (backToKw pos (keywordEach kws X.env)).all (·.1.isSome) = true := by rfl) (hks : (backToKw pos (keywordEach kws X.env)).filterMap (·.1) = ks := by rfl)
    (hdb : (x == ("__debug__" : Str)) = false := by decide) (hpl : ((backTo pos (starEach [] X.env)).any (·.1) || (backToKw pos (keywordEach kws X.env)).any (·.1.isNone)) = false := by rfl) :
    DE X W (.Call (.Name x p) [] kws pos) (eCallK 0 ks.length den aNil fk) := by
  obtain ⟨fd, ps, its, dvs, dds, den0, sel, G, hb, hdd, rfl⟩ := F.ex
  obtain ⟨u, pk, ek⟩ := hw.ex
  refine ⟨fun σ H Q => u σ H fun zs H2 => zs.length = ks.length ∧ spD X.K X.mg den0 (pickL sel [] dvs zs) H2 Q (WE W σ), ⟨fun pins s σ H Q I h => ?_⟩, fun B F H r σ Q R p => ?_⟩
  · refine wpAny_Call_Name_kw (ld_glob I hg hm ?_ hdb)
    refine PySem.W.callWith_KW0 (h₀ := X.base) I.ok.mod.kin F.kp hall ?_ hpl
    refine thn (pk.run pos pins s σ H _ I h) fun ws s2 ⟨zs, H2, I2, rz, l2, q2⟩ => ⟨I2.kIn, ?_⟩
    rw [hks]
    exact run_fnKS (E := WE W) (us := []) (vs := []) G (hr.mono hk) hb (passAt tk σ) I2 .nil rz rfl l2 q2
  · have p' : Po X.K X.mg W B F σ (rE X.K X.mg) Q ((fk r).bind fun q => if (0 : Nat) = 0 ∧ q.1.length = ks.length then callR (den0 (pickL sel [] dds q.1)) q.2 else .bad) := p
    refine ek.to R p' fun zs r2 ws F2 H2 R2 s2 x2 p2 => ?_
    by_cases hl : (0 : Nat) = 0 ∧ zs.length = ks.length
    · rw [if_pos hl] at p2
      refine ⟨(repL_len x2).trans hl.2, ?_⟩
      have := call_po (den0 := den0) (dds := []) (dvs := []) R2 (pick_rep (as := []) (vs := []) rfl (hdd F2) x2 sel) (fun _ => rfl) (by rw [List.append_nil]; exact p2)
      rw [List.append_nil] at this
      exact this
    · rw [if_neg hl] at p2
      exact p2.elim
/-- o.m(e, .., k = v, ..) -/
theorem de_methK {pl : Sem Bool} (F : KalA X.prog X.w X.K X.mg X.base k f n ks den) (tk : Takes X W) (hr : Room j X.A) (hk : k ≤ j) (hc : X.mg c = some (.ref C)) (cl : Cls X.K C) (hm : Meth X.K C m f) (ho : DE X W o fo) (ha : DA X W (e :: es) fa) (hw : DK X W kws fk)
    (hall : (backToKw pos (keywordEach kws X.env)).all (·.1.isSome) = true := by rfl) (hks : (backToKw pos (keywordEach kws X.env)).filterMap (·.1) = ks := by rfl) (he : starEach (e :: es) X.env = (false, eval e X.env) :: starEach es X.env := by rfl)
    (hpl : ((backTo pos (starEach (e :: es) X.env)).any (·.1) || (backToKw pos (keywordEach kws X.env)).any (·.1.isNone)) = false := by rfl)
    (ht : eval (.Call (.Attribute o m apos) (e :: es) kws pos) X.env = (do
      let ov ← eval o X.env
      standAt apos.atName
      let (f, first) ← holding [ov] (getMethod ov m pl)
      callWith pos f first (backTo pos (starEach (e :: es) X.env)) (backToKw pos (keywordEach kws X.env))) := by rfl) : DE X W (.Call (.Attribute o m apos) (e :: es) kws pos) (eMethK c m n ks.length den fo fa fk) := by
  obtain ⟨fd, ps, its, dvs, dds, den0, sel, G, hb, hdd, rfl⟩ := F.ex
  obtain ⟨to, po, eo⟩ := ho.ex
  obtain ⟨t, pa, ea⟩ := ha.ex
  obtain ⟨u, pk, ek⟩ := hw.ex
  refine ⟨fun σ H Q => to σ H fun x H1 => ∃ a dx fs, x = .ref a ∧ H1 a = some (.ins C dx fs) ∧ fs.lookup m = none ∧ t σ H1 fun vs H2 => u σ H2 fun zs H3 => vs.length + 1 = n ∧ zs.length = ks.length ∧ spD X.K X.mg den0 (pickL sel (x :: vs) dvs zs) H3 Q (WE W σ), ⟨fun pins s σ H Q I h => ?_⟩, fun B F H r σ Q R p => ?_⟩
  · refine PySem.W.methodCall_KW (pl := pl) (thn (po.run pins s σ H _ I h) fun u0 s1 ⟨x, H1, I1, rx, a, dx, fs, ex, ea, l, q⟩ => ?_) ht
    subst ex
    obtain rfl : u0 = Value.ref a := rx
    refine getmeth_ok I1 ea cl hm l ?_
    refine PySem.W.callWith_KW (first := [.ref a]) (h₀ := X.base) I.ok.mod.kin hm.kp hall (thn (pa.run pos pins s1 σ H1 _ I1 q) fun us s2 ⟨vs, H2, I2, r, q2⟩ => ?_) hpl he
    refine thn (pk.run pos pins s2 σ H2 _ I2 q2) fun ws s3 ⟨zs, H3, I3, rz, l1, l2, q3⟩ => ⟨I3.kIn, ?_⟩
    rw [hks]
    exact run_fnKS (E := WE W) (us := .ref a :: us) (vs := .ref a :: vs) G (hr.mono hk) hb (passAt tk σ) I3 (.cons rfl r) rz l1 l2 q3
  · refine eo.to R p fun d r0 v F0 H0 R0 s0 x0 p0 => ?_
    cases d with
    | ins c' fs =>
      simp only at p0
      by_cases hcc : c' = c ∧ hasNo fs m = true
      · rw [if_pos hcc] at p0
        obtain ⟨rfl, hn⟩ := hcc
        obtain ⟨a, C', dx, ws0, rfl, hC, hF, hrf⟩ := id x0
        rw [hc] at hC
        cases hC
        refine ⟨a, dx, ws0, rfl, R0.fh _ _ hF, repF_none hrf hn, ea.to R0 p0 fun as r1 vs F1 H1 R1 s1 x1 p1 => ek.to R1 p1 fun zs r2 ws F2 H2 R2 s2 x2 p2 => ?_⟩
        by_cases hl : as.length + 1 = n ∧ zs.length = ks.length
        · simp only [if_pos hl] at p2
          refine ⟨by rw [repL_len x1]; exact hl.1, (repL_len x2).trans hl.2, ?_⟩
          have := call_po (den0 := den0) (dds := []) (dvs := []) R2 (pick_rep (as := .ins c' fs :: as) (vs := .ref a :: vs) ⟨_, _, rfl, rep_mono (s1.trans s2) _ _ x0, repL_mono s2 _ _ x1⟩ (hdd F2) x2 sel) (fun _ => rfl) (by rw [List.append_nil]; exact p2)
          rw [List.append_nil] at this
          exact this
        · simp only [if_neg hl] at p2
          exact p2.elim
      · rw [if_neg hcc] at p0
        exact p0.elim
    | _ => exact p0.elim
/-- o.m(k = v, ..) -/
theorem de_methK0 {pl : Sem Bool} (F : KalA X.prog X.w X.K X.mg X.base k f 1 ks den) (tk : Takes X W) (hr : Room j X.A) (hk : k ≤ j) (hc : X.mg c = some (.ref C)) (cl : Cls X.K C) (hm : Meth X.K C m f) (ho : DE X W o fo) (hw : DK X W kws fk)
    (hall : (backToKw pos (keywordEach kws X.env)).all (·.1.isSome) = true := by rfl) (hks : (backToKw pos (keywordEach kws X.env)).filterMap (·.1) = ks := by rfl)
    (hpl : ((backTo pos (starEach [] X.env)).any (·.1) || (backToKw pos (keywordEach kws X.env)).any (·.1.isNone)) = false := by rfl)
    (ht : eval (.Call (.Attribute o m apos) [] kws pos) X.env = (do
      let ov ← eval o X.env
      standAt apos.atName
      let (f, first) ← holding [ov] (getMethod ov m pl)
      callWith pos f first (backTo pos (starEach [] X.env)) (backToKw pos (keywordEach kws X.env))) := by rfl) : DE X W (.Call (.Attribute o m apos) [] kws pos) (eMethK c m 1 ks.length den fo aNil fk) := by
  obtain ⟨fd, ps, its, dvs, dds, den0, sel, G, hb, hdd, rfl⟩ := F.ex
  obtain ⟨to, po, eo⟩ := ho.ex
  obtain ⟨u, pk, ek⟩ := hw.ex
  refine ⟨fun σ H Q => to σ H fun x H1 => ∃ a dx fs, x = .ref a ∧ H1 a = some (.ins C dx fs) ∧ fs.lookup m = none ∧ u σ H1 fun zs H3 => zs.length = ks.length ∧ spD X.K X.mg den0 (pickL sel [x] dvs zs) H3 Q (WE W σ), ⟨fun pins s σ H Q I h => ?_⟩, fun B F H r σ Q R p => ?_⟩
  · refine PySem.W.methodCall_KW (pl := pl) (thn (po.run pins s σ H _ I h) fun u0 s1 ⟨x, H1, I1, rx, a, dx, fs, ex, ea, l, q⟩ => ?_) ht
    subst ex
    obtain rfl : u0 = Value.ref a := rx
    refine getmeth_ok I1 ea cl hm l ?_
    refine PySem.W.callWith_KW0 (first := [.ref a]) (h₀ := X.base) I.ok.mod.kin hm.kp hall ?_ hpl
    refine thn (pk.run pos pins s1 σ H1 _ I1 q) fun ws s3 ⟨zs, H3, I3, rz, l2, q3⟩ => ⟨I3.kIn, ?_⟩
    rw [hks]
    exact run_fnKS (E := WE W) (us := [.ref a]) (vs := [.ref a]) G (hr.mono hk) hb (passAt tk σ) I3 (.cons rfl .nil) rz rfl l2 q3
  · refine eo.to R p fun d r0 v F0 H0 R0 s0 x0 p0 => ?_
    cases d with
    | ins c' fs =>
      simp only at p0
      by_cases hcc : c' = c ∧ hasNo fs m = true
      · rw [if_pos hcc] at p0
        obtain ⟨rfl, hn⟩ := hcc
        obtain ⟨a, C', dx, ws0, rfl, hC, hF, hrf⟩ := id x0
        rw [hc] at hC
        cases hC
        have p' : Po X.K X.mg W B F0 σ (rE X.K X.mg) Q ((fk r0).bind fun q => if (0 : Nat) + 1 = 1 ∧ q.1.length = ks.length then callR (den0 (pickL sel [.ins c' fs] dds q.1)) q.2 else .bad) := p0
        refine ⟨a, dx, ws0, rfl, R0.fh _ _ hF, repF_none hrf hn, ek.to R0 p' fun zs r2 ws F2 H2 R2 s2 x2 p2 => ?_⟩
        by_cases hl : (0 : Nat) + 1 = 1 ∧ zs.length = ks.length
        · rw [if_pos hl] at p2
          refine ⟨(repL_len x2).trans hl.2, ?_⟩
          have := call_po (den0 := den0) (dds := []) (dvs := []) R2 (pick_rep (as := [.ins c' fs]) (vs := [.ref a]) ⟨_, _, rfl, rep_mono s2 _ _ x0, rfl⟩ (hdd F2) x2 sel) (fun _ => rfl) (by rw [List.append_nil]; exact p2)
          rw [List.append_nil] at this
          exact this
        · rw [if_neg hl] at p2
          exact p2.elim
      · rw [if_neg hcc] at p0
        exact p0.elim
    | _ => exact p0.elim
end
end Dl

set_option Elab.async false
set_option linter.all false
set_option maxRecDepth 100000
set_option maxHeartbeats 4000000
namespace Dl
open PySem L2

/-! ### methods of a list of one's own -/
def isLstAt (r : En) (i : Nat) : Bool := match r[i]? with
  | some (some s) => (match s.d with
    | .lst _ => s.mine
    | _ => false)
  | _ => false
def eLm (i : Nat) (g : List D → List D → Option (D × List D)) (fa : En → Res (List D × En)) : En → Res (D × En) := fun r => if isLstAt r i = true then (fa r).bind fun p => atMine p.2 i fun s => match s.d with
  | .lst ds => (match g ds p.1 with
    | some (z, es) => .ok (z, p.2.set i (some (s.put (.lst es))))
    | none => .bad)
  | _ => .bad else .bad
theorem isLstAt_ok {r : En} {i : Nat} (h : isLstAt r i = true) : ∃ s ds, r[i]? = some (some s) ∧ s.mine = true ∧ s.d = .lst ds := by
  unfold isLstAt at h
  cases e : r[i]? with
  | none =>
    rw [e] at h
    cases h
  | some o =>
    cases o with
    | none =>
      rw [e] at h
      cases h
    | some s =>
      rw [e] at h
      simp only at h
      cases d : s.d with
      | lst ds =>
        rw [d] at h
        exact ⟨s, ds, rfl, h, d⟩
      | _ =>
        rw [d] at h
        cases h
/-- what such a method does: g tells the value and the new items -/
def LmR (X : Cx) (rr : V → List V → Hp → VK → Prop) (g : List D → List D → Option (D × List D)) : Prop :=
  ∀ F H p xs vs ds as z es Q, Same F H → H p = some (.lst xs) → repL X.K X.mg F ds xs → repL X.K X.mg F as vs → g ds as = some (z, es) → (∀ w ys, repL X.K X.mg F es ys → rep X.K X.mg F z w → Q w (upd H p (.lst ys))) → rr (.ref p) vs H Q
section
variable {X : Cx} {W : WX} {i : Nat} {fa : En → Res (List D × En)} {t : TA} {rr : V → List V → Hp → VK → Prop} {g : List D → List D → Option (D × List D)}
theorem lm_ent (hg : LmR X rr g) (ea : Ent X.K X.mg W (rA X.K X.mg) t fa) : Ent X.K X.mg W (rE X.K X.mg) (tBM X.K "list" rr (tVar i) t) (eLm i g fa) := by
  intro B F H r σ Q R p
  unfold eLm at p
  by_cases h0 : isLstAt r i = true
  · rw [if_pos h0] at p
    obtain ⟨s0, ds0, hs0, m0, hd0⟩ := isLstAt_ok h0
    obtain ⟨pa, e0, ho, _⟩ := R.mine_at hs0 m0
    rw [hd0] at ho
    obtain ⟨xs0, hH0, _⟩ := ho
    refine ⟨_, e0, .inl ⟨rfl, _, SqL.of hH0⟩, ea.to R p fun as r1 vs F1 H1 R1 s1 x1 p1 => ?_⟩
    rcases atMine_cases r1 i (fun s => match s.d with
      | .lst ds => (match g ds as with
        | some (z, es) => .ok (z, r1.set i (some (s.put (.lst es))))
        | none => .bad)
      | _ => (.bad : Res (D × En))) with z | ⟨s, hs, m, z⟩
    · simp only [z] at p1
      exact p1.elim
    · simp only [z] at p1
      obtain ⟨pa', e1, ho, hF⟩ := R1.mine_at hs m
      rw [e0] at e1
      cases e1
      cases hd : s.d with
      | lst ds =>
        rw [hd] at p1 ho
        simp only at p1
        obtain ⟨xs, hH, rx⟩ := ho
        cases hgz : g ds as with
        | none =>
          rw [hgz] at p1
          exact p1.elim
        | some ze =>
          obtain ⟨zv, es⟩ := ze
          rw [hgz] at p1
          refine hg F1 H1 pa xs vs ds as zv es Q R1.fh hH rx x1 hgz fun w ys ry rz => ?_
          have R2 := R1.mut1 (d := .lst es) (F' := F1) (H' := upd H1 pa (.lst ys)) hs m e0 (Same.refl F1) (fun a o h => by
            rw [upd_ne (fun q => by rw [q, hF] at h; cases h)]
            exact R1.fh a o h) (fun a o ne h => by rw [upd_ne ne]; exact h) (fun a h _ => h) rfl ⟨ys, upd_same, ry⟩
          exact p1 w F1 _ R2 (Same.refl F1) rz
      | _ =>
        rw [hd] at p1
        exact p1.elim
  · rw [if_neg h0] at p
    exact p.elim
variable {y : Str} {q apos pos : Pos} {e e2 : Expr}
def popG : List D → List D → Option (D × List D) := fun ds as => match as with
  | [.int k] => if -1000000 < k ∧ k < 1000000 then (match ixN ds.length k with
    | some j => (ds[j]?).map fun z => (z, ds.eraseIdx j)
    | none => none) else none
  | _ => none
def insG : List D → List D → Option (D × List D) := fun ds as => match as with
  | [.int k, x] => if 0 ≤ k ∧ k < 1000000 ∧ ds.length < 100000 then some (.non, ds.take k.toNat ++ [x] ++ ds.drop k.toNat) else none
  | _ => none
theorem repL_erase {K : PySem.W.Frag} {mg : Str → Option Value} {F : Hp} : ∀ (n : Nat) {ds : List D} {vs : List V}, repL K mg F ds vs → repL K mg F (ds.eraseIdx n) (vs.eraseIdx n)
  | _, [], _, h => by
    cases h
    rfl
  | 0, d :: ds, _, h => by
    obtain ⟨w, ws, rfl, h1, h2⟩ := h
    exact h2
  | n + 1, d :: ds, _, h => by
    obtain ⟨w, ws, rfl, h1, h2⟩ := h
    exact ⟨w, _, rfl, h1, repL_erase n h2⟩
theorem lm_pop : LmR X rPopAt popG := by
  intro F H p xs vs ds as z es Q s hH rd ra hg k
  unfold popG at hg
  split at hg
  · rename_i i
    obtain ⟨v, ws, rfl, h1, h2⟩ := ra
    cases (show ws = [] from h2)
    cases (show v = .int i from h1)
    have hb : -1000000 < i ∧ i < 1000000 := by
      by_cases hb : -1000000 < i ∧ i < 1000000
      · exact hb
      · rw [if_neg hb] at hg
        cases hg
    rw [if_pos hb] at hg
    split at hg
    · rename_i j hj
      obtain ⟨hs, hlt, b1, b2⟩ := ixN_seq hj
      cases hz : ds[j]? with
      | none =>
        rw [hz] at hg
        cases hg
      | some z0 =>
        rw [hz] at hg
        cases hg
        obtain ⟨v0, hv0, r0⟩ := repL_get rd hz
        have hl := repL_len rd
        exact ⟨p, xs, i, j, v0, rfl, rfl, hH, by omega, by omega, by rw [hl]; exact hs, hv0, k v0 _ (repL_erase j rd) r0⟩
    · cases hg
  · cases hg
theorem lm_ins : LmR X (fun x vs H Q => ∃ (l : Addr) (xs : List V) (i : Int) (y : V), x = .ref l ∧ vs = [.int i, y] ∧ H l = some (.lst xs) ∧ xs.length < sizeLine ∧ 0 ≤ i ∧ i < 2 ^ 63 ∧ Q .non (upd H l (.lst (xs.take i.toNat ++ [y] ++ xs.drop i.toNat)))) insG := by
  intro F H p xs vs ds as z es Q s hH rd ra hg k
  unfold insG at hg
  split at hg
  · rename_i i x
    by_cases hb : 0 ≤ i ∧ i < 1000000 ∧ ds.length < 100000
    · rw [if_pos hb] at hg
      cases hg
      obtain ⟨v, ws, rfl, h1, v2, ws2, rfl, h2, h3⟩ := ra
      cases (show ws2 = [] from h3)
      cases (show v = .int i from h1)
      have hl := repL_len rd
      have sz : (100000 : Nat) ≤ sizeLine := by decide
      exact ⟨p, xs, i, v2, rfl, rfl, hH, by omega, hb.1, by omega, k .non _ (repL_app (repL_app (repL_take i.toNat rd) ⟨v2, [], rfl, h2, rfl⟩) (repL_drop i.toNat rd)) rfl⟩
    · rw [if_neg hb] at hg
      cases hg
  · cases hg
/-- y.pop(e) -/
theorem de_pop (ha : DA X W [e] fa) (hN : X.N[i]? = some y := by rfl) (hv : Vis X.env.scope y := by first | exact Or.inl rfl | exact Or.inr (Or.inl rfl) | exact Or.inr (Or.inr rfl))
    (hyd : (y == ("__debug__" : Str)) = false := by decide) (hcd : (y == ("__classdict__" : Str)) = false := by decide)
    (hbase : attributeBase (.Name y q) "pop" X.env (eval (.Name y q) X.env) = eval (.Name y q) X.env := by rfl)
    (hfew : ((backTo pos (starEach [e] X.env)).all (fun x => !x.1) && (backToKw pos (keywordEach [] X.env)).all (fun x => x.1.isSome)
      && decide (([e] : List Expr).length + ([] : List Keyword).length + (if ([] : List Keyword).isEmpty then 0 else 1) < 30)) = true := by rfl)
    (hline : (apos.endLine == pos.line) = true := by rfl) (hst : starEach [e] X.env = (false, eval e X.env) :: starEach [] X.env := by rfl) :
    DE X W (.Call (.Attribute (.Name y q) "pop" apos) [e] [] pos) (eLm i popG fa) := by
  obtain ⟨t, hp, he⟩ := ha.ex
  exact ⟨_, pe_bm PySem.F.plainAttrs_list PySem.F.slot_list_pop PySem.F.type_list_pop mt_popAt (pe_var hN hv hyd hcd) hp hbase hfew hline hst rfl, lm_ent lm_pop he⟩
/-- y.insert(e, e2) -/
theorem de_insert (ha : DA X W [e, e2] fa) (hN : X.N[i]? = some y := by rfl) (hv : Vis X.env.scope y := by first | exact Or.inl rfl | exact Or.inr (Or.inl rfl) | exact Or.inr (Or.inr rfl))
    (hyd : (y == ("__debug__" : Str)) = false := by decide) (hcd : (y == ("__classdict__" : Str)) = false := by decide)
    (hbase : attributeBase (.Name y q) "insert" X.env (eval (.Name y q) X.env) = eval (.Name y q) X.env := by rfl)
    (hfew : ((backTo pos (starEach [e, e2] X.env)).all (fun x => !x.1) && (backToKw pos (keywordEach [] X.env)).all (fun x => x.1.isSome)
      && decide (([e, e2] : List Expr).length + ([] : List Keyword).length + (if ([] : List Keyword).isEmpty then 0 else 1) < 30)) = true := by rfl)
    (hline : (apos.endLine == pos.line) = true := by rfl) (hst : starEach [e, e2] X.env = (false, eval e X.env) :: starEach [e2] X.env := by rfl) (hpl : (backTo pos (starEach [e2] X.env)).any (·.1) = false := by rfl) :
    DE X W (.Call (.Attribute (.Name y q) "insert" apos) [e, e2] [] pos) (eLm i insG fa) := by
  obtain ⟨t, hp, he⟩ := ha.ex
  exact ⟨_, pe_bm PySem.F.plainAttrs_list PySem.F.slot_list_insert PySem.F.type_list_insert mt_insert (pe_var hN hv hyd hcd) hp hbase hfew hline hst hpl, lm_ent lm_ins he⟩
end
end Dl

set_option Elab.async false
set_option linter.all false
set_option maxRecDepth 100000
set_option maxHeartbeats 4000000
namespace Dl
open PySem L2
/-! ### [..] * n, is True, tuple(x), zip -/
def repD : D → D → Option D
  | .lst ds, .int k => if -1000000 < k ∧ k < 1000000 ∧ ds.length * k.toNat ≤ 100000 then some (.lst (List.replicate k.toNat ds).flatten) else none
  | _, _ => none
def isB : D → D → Option D
  | .bl a, .bl b => some (.bl (decide (a = b)))
  | _, _ => none
def notB : D → D → Option D
  | .bl a, .bl b => some (.bl (!decide (a = b)))
  | _, _ => none
def tupleD : D → Option D
  | .lst ds => some (.tup ds)
  | .tup ds => some (.tup ds)
  | _ => none
section
variable {X : Cx} {W : WX} {a b e e2 : Expr} {pos p : Pos} {fa fb : En → Res (BV × En)}
theorem repL_rep {K : PySem.W.Frag} {mg : Str → Option Value} {F : Hp} {ds : List D} {vs : List V} (h : repL K mg F ds vs) : ∀ n : Nat, repL K mg F (List.replicate n ds).flatten (List.replicate n vs).flatten
  | 0 => rfl
  | n + 1 => by
    rw [List.replicate_succ, List.replicate_succ, List.flatten_cons, List.flatten_cons]
    exact repL_app h (repL_rep h n)
theorem on_rep : OpN X rRep repD := by
  intro F H v u x y z Q s h1 h2 h3 k
  cases x with
  | lst ds =>
    cases y with
    | int j =>
      have h3' : (if -1000000 < j ∧ j < 1000000 ∧ ds.length * j.toNat ≤ 100000 then some (D.lst (List.replicate j.toNat ds).flatten) else none) = some z := h3
      by_cases hb : -1000000 < j ∧ j < 1000000 ∧ ds.length * j.toNat ≤ 100000
      · rw [if_pos hb] at h3'
        cases h3'
        obtain ⟨l, xs, rfl, hH, rx⟩ := h1
        have hl := repL_len rx
        cases (show u = .int j from h2)
        have sz : (100000 : Nat) ≤ sizeLine := by decide
        exact ⟨l, j, xs, rfl, rfl, hH, by omega, by omega, by rw [hl]; omega, fun p hp => k p _ hp ⟨_, upd_same, repL_rep rx _⟩⟩
      · rw [if_neg hb] at h3'
        cases h3'
    | _ => cases h3
  | _ => cases h3
theorem dn_rep (ha : DB X W a fa) (hb : DB X W b fb) : DN X W (.BinOp a .Mult b pos) (eBin repD fa fb) := dn_op op_rep on_rep ha hb
theorem ov_isB : OpV X rIsB isB := by
  intro F H v u x y z Q s h1 h2 h3 k
  cases x with
  | bl i =>
    cases y with
    | bl j =>
      cases h3
      exact ⟨i, j, h1, h2, k _ rfl⟩
    | _ => cases h3
  | _ => cases h3
theorem ov_notB : OpV X rNotB notB := by
  intro F H v u x y z Q s h1 h2 h3 k
  cases x with
  | bl i =>
    cases y with
    | bl j =>
      cases h3
      exact ⟨i, j, h1, h2, k _ rfl⟩
    | _ => cases h3
  | _ => cases h3
theorem dc_isB (ha : DB X W a fa) (hb : DB X W b fb) : DC X W .Is a b (eBin (orD isN isB) fa fb) := DC.or2 (dc_is ha hb) (dc_op op_isBl ov_isB ha hb)
theorem dc_notB (ha : DB X W a fa) (hb : DB X W b fb) : DC X W .IsNot a b (eBin (orD notN notB) fa fb) := DC.or2 (dc_isnot ha hb) (dc_op op_notBl ov_notB ha hb)
/-- one operand, frozen -/
theorem un_entE {t : TE} {h : En → Res (D × En)} {rr : V → Hp → VK → Prop} {g : D → Option D} {R : RR D V} (he : Ent X.K X.mg W (rE X.K X.mg) t h)
    (hr : ∀ B F H r σ v x z Q, Rel X.K X.mg B F H r σ → rep X.K X.mg F x v → g x = some z → Po X.K X.mg W B F σ R Q (.ok (z, r)) → rr v H Q) : Ent X.K X.mg W R (tUn rr t) (eUn g (bOf h)) := by
  intro B F H r σ Q R0 p
  unfold eUn bOf at p
  refine he B F H r σ _ R0 ?_
  cases q : h r with
  | ok a =>
    obtain ⟨d, r'⟩ := a
    rw [q] at p
    simp only [bind_ok, getB] at p
    intro v F' H' R' s x
    cases g3 : g d with
    | some z =>
      simp only [g3, liftR, bind_ok] at p
      exact hr B F' H' r' σ v d z Q R' x g3 (Po.weak p s)
    | none =>
      simp only [g3, liftR, bind_bad] at p
      exact p.elim
  | er c fs r' =>
    rw [q] at p
    exact p
  | bad =>
    rw [q] at p
    exact p
theorem de_tuple1 {h : En → Res (D × En)} (hm : X.mg "tuple" = none) (ha : DE X W a h) (hg : Gl X "tuple" := by rfl) (hst : starEach [a] X.env = (false, eval a X.env) :: starEach [] X.env := by rfl) : DE X W (.Call (.Name "tuple" p) [a] [] pos) (eUn tupleD (bOf h)) := by
  obtain ⟨t, hp, he⟩ := ha.ex
  refine ⟨_, pe_callTy call_tuple_of hg hm PyProof.Rows.boot_tuple (pa_cons hp pa_nil hst) (by decide) (by decide) hst rfl, un_entE (rr := fun v H Q => ∃ q ys, [v] = [V.ref q] ∧ ((SqL X.K H q ys ∧ ∀ l, H l = none → Q (.ref l) (upd H l (.tup ys))) ∨ (SqT X.K H q ys ∧ Q (.ref q) H))) he ?_⟩
  intro B F H r σ v x z Q R h1 h2 k
  cases x with
  | lst ds =>
    cases h2
    obtain ⟨l, xs, rfl, hH, rx⟩ := h1
    refine ⟨l, xs, rfl, .inl ⟨SqL.of (R.fh _ _ hH), fun q hq => ?_⟩⟩
    have fq := R.fh.free hq
    exact k _ _ _ (R.newF hq) (same_new fq) ⟨q, xs, rfl, SqT.of upd_same, repL_mono (same_new fq) _ _ rx⟩
  | tup ds =>
    cases h2
    obtain ⟨l, xs, rfl, hH, rx⟩ := id h1
    exact ⟨l, xs, rfl, .inr ⟨sqT_mono R.fh hH, k _ F H R (Same.refl F) h1⟩⟩
  | _ => cases h2
end
end Dl

set_option Elab.async false
set_option linter.all false
set_option maxRecDepth 100000
set_option maxHeartbeats 4000000
namespace Dl
open PySem L2
def slT (d : D) (lo hi : Option Int) : Option D := match d with
  | .tup ds => some (.tup (cutD ds lo hi))
  | _ => none
def slA (d : D) (lo hi : Option Int) : Option D := match slL d lo hi with
  | some z => some z
  | none => slT d lo hi
theorem eSl_or {g h : D → Option Int → Option Int → Option D} {fe : En → Res (BV × En)} {fl fh : En → Res (Option Int × En)} : eAlt (eSl g fe fl fh) (eSl h fe fl fh) = eSl (fun d l u => match g d l u with | some z => some z | none => h d l u) fe fl fh := by
  funext r
  unfold eAlt eSl
  cases fe r with
  | ok p =>
    simp only [bind_ok]
    cases fl p.2 with
    | ok l =>
      simp only [bind_ok]
      cases fh l.2 with
      | ok u =>
        simp only [bind_ok]
        cases getB p.1 u.2 with
        | ok d =>
          simp only [bind_ok]
          cases g d l.1 u.1 with
          | some z => rfl
          | none => simp only [liftR, bind_bad]
        | er c fs r' => rfl
        | bad => rfl
      | er c fs r' => rfl
      | bad => rfl
    | er c fs r' => rfl
    | bad => rfl
  | er c fs r' => rfl
  | bad => rfl
section
variable {X : Cx} {W : WX} {e e2 : Expr} {pos p p2 : Pos} {fe : En → Res (BV × En)} {fl fh : En → Res (Option Int × En)} {lo hi : Option Expr}
theorem de_slT {h : En → Res (D × En)} (he : DE X W e h) (hl : DO X W lo fl) (hu : DO X W hi fh) : DE X W (.Subscript e (.Slice lo hi none p2) pos) (eSl slT (bOf h) fl fh) := by
  obtain ⟨t, hp, ee⟩ := he.ex
  obtain ⟨tl, hpl, el⟩ := hl.ex
  obtain ⟨tu, hpu, eu⟩ := hu.ex
  refine ⟨_, pe_slice sl_tupA hp hpl hpu, fun B F H r σ Q R p => ?_⟩
  have p' : Po X.K X.mg W B F σ (rE X.K X.mg) Q ((h r).bind fun q => (fl q.2).bind fun l => (fh l.2).bind fun u => (liftR (slT q.1 l.1 u.1)).bind fun z => .ok (z, u.2)) := by
    have e : eSl slT (bOf h) fl fh r = ((h r).bind fun q => (fl q.2).bind fun l => (fh l.2).bind fun u => (liftR (slT q.1 l.1 u.1)).bind fun z => .ok (z, u.2)) := by
      unfold eSl bOf
      cases h r <;> rfl
    rw [← e]
    exact p
  refine ee.to R p' fun d r1 v F1 H1 R1 s1 x1 p1 => ?_
  refine el.to R1 p1 fun l r2 l' F2 H2 R2 s2 x2 p2 => ?_
  cases (show l = l' from x2)
  refine eu.to R2 p2 fun u r3 u' F3 H3 R3 s3 x3 p3 => ?_
  cases (show u = u' from x3)
  have x1' := rep_mono (s2.trans s3) _ _ x1
  cases d with
  | tup ds =>
    obtain ⟨a, xs, rfl, ha, ra⟩ := id x1'
    have p4 : Po X.K X.mg W B F3 σ (rE X.K X.mg) Q (.ok (D.tup (cutD ds l u), r3)) := p3
    have cut : repL X.K X.mg F3 (cutD ds l u) (cutV xs l u) := by
      unfold cutD cutV
      rw [repL_len ra]
      exact repL_take _ (repL_drop _ ra)
    refine ⟨a, xs, rfl, sqT_mono R3.fh ha, fun w => p4 _ F3 H3 R3 (Same.refl F3) ⟨a, xs, rfl, ha, ?_⟩, fun _ q hq => ?_⟩
    · have e : cutV xs l u = xs := by
        unfold cutV
        rw [w.1, w.2, List.drop_zero, Nat.sub_zero, List.take_length]
      rw [e] at cut
      exact cut
    · have fq := R3.fh.free hq
      exact p4 _ _ _ (R3.newF hq) (same_new fq) ⟨q, _, rfl, SqT.of upd_same, repL_mono (same_new fq) _ _ cut⟩
  | _ => exact p3.elim
theorem de_slA {h : En → Res (D × En)} (he : DE X W e h) (hl : DO X W lo fl) (hu : DO X W hi fh) : DE X W (.Subscript e (.Slice lo hi none p2) pos) (eSl slA (bOf h) fl fh) := by
  have := (dn_sl (pos := pos) (p2 := p2) he.db hl hu).de.alt (de_slT he hl hu)
  rw [eSl_or] at this
  exact this
/-! ### zip -/
def zipD (ds es : List D) : List D := (ds.zip es).map fun q => .tup [q.1, q.2]
def iZip (f : En → Res (List D × En)) : En → Res (List D × En) := fun r => (f r).bind fun p => match p.1 with
  | [.lst ds, .lst es] => .ok (zipD ds es, p.2)
  | [.tup ds, .tup es] => .ok (zipD ds es, p.2)
  | _ => .bad
theorem walk_zipT {K : PySem.W.Frag} {a b : Addr} {xs ys : List V} {n : Nat} (hn : n = min xs.length ys.length) : Walk (RZ.ItzT K a b) n (fun H => SqT K H a xs ∧ SqT K H b ys) (YPair (fun i => xs[i]?) (fun i => ys[i]?)) := by
  subst hn
  refine ⟨fun i _ hi q => ?_, fun _ q => ⟨xs, ys, q.1, q.2, by omega⟩, fun i H v H' _ q y => ?_⟩
  · have h1 : i < xs.length := by omega
    have h2 : i < ys.length := by omega
    exact ⟨xs, ys, xs[i], ys[i], q.1, q.2, by simp [h1], by simp [h2]⟩
  · obtain ⟨T, x, z, h1, h2, h3, h4, h5⟩ := y
    exact ⟨T, x, z, h1, h2, h3, h4 xs q.1, h5 ys q.2⟩
theorem zip_items {K : PySem.W.Frag} {mg : Str → Option Value} {F : Hp} {ds es : List D} {xs ys : List V} (ra : repL K mg F ds xs) (rb : repL K mg F es ys) (i : Nat) (d : D) (x y : V) (e : (zipD ds es)[i]? = some d) (hx : xs[i]? = some x) (hy : ys[i]? = some y) :
    ∃ a b, d = .tup [a, b] ∧ rep K mg F a x ∧ rep K mg F b y := by
  unfold zipD at e
  rw [List.getElem?_map] at e
  cases q : (ds.zip es)[i]? with
  | none =>
    rw [q] at e
    cases e
  | some p =>
    rw [q] at e
    cases e
    obtain ⟨h1, h2⟩ := List.getElem?_zip_eq_some.mp q
    obtain ⟨v, e1, e2⟩ := repL_get ra h1
    obtain ⟨u, f1, f2⟩ := repL_get rb h2
    rw [hx] at e1
    rw [hy] at f1
    cases e1
    cases f1
    exact ⟨_, _, rfl, e2, f2⟩
theorem di_zip {f : En → Res (List D × En)} {elts : List Expr} {kk : Nat} {tpos : Pos} (hg : Gl X "zip") (hm : X.mg "zip" = none) (ha : DA X W [e, e2] f) (hs : starEach [e, e2] X.env = (false, eval e X.env) :: starEach [e2] X.env := by rfl) (hpl : (backTo pos (starEach [e2] X.env)).any (·.1) = false := by rfl) :
    DI X W (.Tuple elts kk tpos) (.Call (.Name "zip" p) [e, e2] [] pos) (iZip f) := by
  obtain ⟨t, hp, he⟩ := ha.ex
  refine ⟨_, RZ.pi_zipA hg hm hp hs hpl, fun B F H r σ Q R p => he.to R p fun ds r1 vs F1 H1 R1 s1 x1 p1 => ?_⟩
  simp only at p1
  split at p1
  · rename_i ds es
    obtain ⟨w1, ws, rfl, ⟨a, xs, rfl, ha, ra⟩, w2, ws2, rfl, ⟨b, ys, rfl, hb, rb⟩, h3⟩ := x1
    cases (show ws2 = [] from h3)
    refine ⟨a, b, xs, ys, rfl, .inl ⟨SqL.of (R1.fh _ _ ha), SqL.of (R1.fh _ _ hb), p1 _ F1 H1 R1 (Same.refl F1) ?_⟩⟩
    have hl : (zipD ds es).length = min xs.length ys.length := by unfold zipD; rw [List.length_map, List.length_zip, repL_len ra, repL_len rb]
    exact wk_pair (G := fun H => SqL X.K H a xs ∧ SqL X.K H b ys) (walk_zip hl) (fun F' H' q1 q2 => ⟨SqL.of (q2 _ _ (q1 _ _ ha)), SqL.of (q2 _ _ (q1 _ _ hb))⟩) (fun i d x y => zip_items ra rb i d x y)
  · rename_i ds es
    obtain ⟨w1, ws, rfl, ⟨a, xs, rfl, ha, ra⟩, w2, ws2, rfl, ⟨b, ys, rfl, hb, rb⟩, h3⟩ := x1
    cases (show ws2 = [] from h3)
    refine ⟨a, b, xs, ys, rfl, .inr ⟨sqT_mono R1.fh ha, sqT_mono R1.fh hb, p1 _ F1 H1 R1 (Same.refl F1) ?_⟩⟩
    have hl : (zipD ds es).length = min xs.length ys.length := by unfold zipD; rw [List.length_map, List.length_zip, repL_len ra, repL_len rb]
    exact wk_pair (G := fun H => SqT X.K H a xs ∧ SqT X.K H b ys) (walk_zipT hl) (fun F' H' q1 q2 => ⟨sqT_mono (q1.trans q2) ha, sqT_mono (q1.trans q2) hb⟩) (fun i d x y => zip_items ra rb i d x y)
  · exact p1.elim
end
end Dl

set_option Elab.async false
set_option linter.all false
set_option maxRecDepth 100000
set_option maxHeartbeats 4000000
namespace Dl
open PySem L2
/-! ### set(xs): numbers and texts -/
def memS (l : List Key) (k : Key) : Bool := l.any fun x => decide (x = k)
def dedS (l : List Key) (k : Key) : List Key := if memS l k = true then l else l ++ [k]
def metS (val : Nat → Key) (i : Nat) : List Key := ((List.range i).map val).foldl dedS []
theorem metS_succ (val : Nat → Key) (i : Nat) : metS val (i + 1) = dedS (metS val i) (val i) := by
  unfold metS
  rw [List.range_succ, List.map_append, List.foldl_append]
  rfl
theorem dedS_length (l : List Key) (v : Key) : (dedS l v).length = if memS l v = true then l.length else l.length + 1 := by
  unfold dedS
  split
  · rfl
  · rw [List.length_append, List.length_singleton]
theorem metS_len (val : Nat → Key) : ∀ i, (metS val i).length ≤ i
  | 0 => Nat.le_refl _
  | i + 1 => by
    rw [metS_succ, dedS_length]
    have := metS_len val i
    split <;> omega
theorem memS_ded (l : List Key) (v k : Key) : memS (dedS l v) k = (memS l k || decide (k = v)) := by
  unfold dedS
  by_cases h : memS l v = true
  · rw [if_pos h]
    by_cases e : k = v
    · subst e; rw [h]; simp
    · simp [e]
  · rw [if_neg h]
    unfold memS
    rw [List.any_append]
    by_cases e : k = v
    · subst e; simp
    · have e' : ¬ v = k := fun z => e z.symm
      simp [e, e']
theorem setOf_congr {prog : Program} {w : World} {h : Heap} {a : Addr} {S S' : Key → Bool} {n n' : Nat} (hS : h.SetOf (mixKind prog w) a S n) (e : ∀ k, S k = S' k) (en : n = n') : h.SetOf (mixKind prog w) a S' n' := by
  have : S = S' := funext e
  subst this
  subst en
  exact hS
section
variable {prog : Program} {w : World} {A : Around} {R : Result → Shared → Prop} {I : Addr} {fp wr : List Addr} {G : Array GenState → Array GenState → Prop} {n : Nat} {P : Nat → Value → Prop} {St : Nat → Shared → Prop}
theorem set_at {a : Addr} {h : Heap} {led : Bool} (hg : h.get? a = some { cls := .type "set", dict := none, data := .set #[] 0 (.fresh 0 0 led) }) : h.SetOf (mixKind prog w) a (fun _ => false) 0 :=
  ⟨_, #[], 0, _, hg, ⟨rfl, rfl, rfl⟩, rfl, fun e he => by simp at he, fun k => by simp, by show 0 < scanBound; unfold scanBound; omega, by rfl, rfl⟩
theorem scan_key {k : Key} {v : Value} (h : (mixKind prog w).is k v = true) : v.scannable = true := by
  rcases keyIs_shape h with ⟨i, t, rfl, rfl⟩ | ⟨x, t, rfl, rfl⟩ <;> rfl
theorem code_updateK (W : WalksS prog w A.in1 I fp wr G n P St) (S : Addr) (hSf : S ∉ fp) (val : Nat → Key) (hval : ∀ i v, P i v → (mixKind prog w).is (val i) v = true) (hb : n + 1 < scanBound) :
    ∀ (k i : Nat) (s : Shared), n - i = k → i ≤ n → St i s → s.heap.SetOf (mixKind prog w) S (memS (metS val i)) (metS val i).length →
      (∀ s', Moved (S :: wr) G s s' → s'.heap.SetOf (mixKind prog w) S (memS (metS val n)) (metS val n).length → R (.ok (.ret .none)) s') →
      codeAny (model prog w) A (.builtin "set.update.loop" ⟨[.ref S, .ref I], []⟩) R s := by
  have hSw : S ∉ wr := fun h => hSf (W.sub _ h)
  have hsub : ∀ b ∈ wr, b ∈ S :: wr := fun b hb => List.mem_cons_of_mem _ hb
  intro k
  induction k with
  | zero =>
    intro i s hk hi hst hS hR
    have hin : i = n := by omega
    subst hin
    refine codeAny_builtin PyProof.Rows.F.entry_set_update_loop ?_
    rw [Around.under_plainId PyProof.Rows.F.plain_set_update_loop _]
    show wpAny _ A.in1 (pyNext (.ref I) >>= _) _ _ s
    refine wpAny_bind (W.done s _ _ hst fun s' hm => ?_)
    show wpAny _ A.in1 (ret Value.none) _ _ s'
    exact wpAny_pure (hR s' (hm.mono hsub) (by
      obtain ⟨o, es, ep, t, ho, rest⟩ := hS
      exact ⟨o, es, ep, t, hm.heap S _ hSw ho, rest⟩))
  | succ k ih =>
    intro i s hk hi hst hS hR
    have hlt : i < n := by omega
    refine codeAny_builtin PyProof.Rows.F.entry_set_update_loop ?_
    rw [Around.under_plainId PyProof.Rows.F.plain_set_update_loop _]
    show wpAny _ A.in1 (pyNext (.ref I) >>= _) _ _ s
    refine wpAny_bind (W.item i s _ _ hlt hst fun v s' hP hst' hm => ?_)
    have hv := hval i v hP
    have hS' : s'.heap.SetOf (mixKind prog w) S (memS (metS val i)) (metS val i).length := by
      obtain ⟨o, es, ep, tb, ho, rest⟩ := hS
      exact ⟨o, es, ep, tb, hm.heap S _ hSw ho, rest⟩
    show wpAny _ A.in1 (holding [v] (setAdd S v) >>= _) _ _ s'
    refine wpAny_bind (wpAny_holding ?_)
    unfold setAdd
    refine wpAny_holding ?_
    refine wpAny_bind ((mixKind prog w).pyHash (k := val i) hv ?_)
    have hroom : (metS val i).length + 1 < scanBound := by have := metS_len val i; omega
    refine wpAny_setAddHashed_of (knd := mixKind prog w) (s := { s' with toks := s'.toks + 1 }) hv (scan_key hv) hS' hroom fun h' hsb hS2 => ?_
    have hSi : h'.SetOf (mixKind prog w) S (memS (metS val (i + 1))) (metS val (i + 1)).length :=
      setOf_congr hS2 (fun k' => by rw [metS_succ, memS_ded]) (by rw [metS_succ, dedS_length])
    refine wpAny_pure ⟨plainId_quiet PyProof.Rows.F.plain_set_update_loop _, ih (i + 1) _ (by omega) hlt (W.frame _ s' _ _ hst' (Nat.le_succ _) fun b hb o e => ?_) hSi fun s'' hm'' hS'' => ?_⟩
    · rw [hsb.2 b (fun h : b = S => hSf (by rw [← h]; exact hb))]; exact e
    · refine hR s'' (Moved.trans W.gtrans ((hm.mono hsub).then_heap (Nat.le_succ _) fun b o hb e => ?_) hm'') hS''
      rw [hsb.2 b (fun h : b = S => hb (by rw [h]; exact List.mem_cons_self))]; exact e
end
section
variable {prog : Program} {w : World} {A : Around} {E : Value → Shared → Prop} {s : Shared}
theorem call_setK {l : Addr} {items : Array Value} {val : Nat → Key} {Q : Value → Shared → Prop} (hh : A.handled = none) (hl : s.heap.IsList l items) (hi : ∀ (i : Nat) (v : Value), items[i]? = some v → (mixKind prog w).is (val i) v = true) (hb : items.size + 1 < scanBound)
    (h : ∀ (h' : Heap) (tk : Nat), h'.SetOf (mixKind prog w) s.heap.objs.size (memS (metS val items.size)) (metS val items.size).length →
      (∀ b o, b < s.heap.objs.size → s.heap.get? b = some o → h'.get? b = some o) → Q (.ref s.heap.objs.size) { s with heap := h', toks := tk }) :
    wpAny (model prog w) A (call (.type "set") [.ref l]) Q E s := by
  obtain ⟨c, tl, hmro⟩ := PySem.F.called_set.mro
  have hmade := PySem.F.called_set.made
  have hsub := PySem.F.called_set.sub
  refine wpAny_call (codeAny_of_tree ?_)
  show wpAny _ _ (callAny (.type "set") _) _ _ _
  refine wpAny_pure ⟨Code.quiet_builtin _ (by decide +kernel), codeAny_builtin PySem.F.entry_type_call ?_⟩
  rw [Around.under_plain (weight_type_call_type "set" [.ref l] []) rfl]
  have h1 := PySem.F.called_set.notType
  have h2 := PySem.F.called_set.canCreate
  have hct := PySem.F.typeCall_set_1 (.ref l)
  repeat (any_goals (first | assumption | wp_step))
  refine codeAny_mono (code_set_new_1 (.ref l) (E := E) (Q₁ := fun obj s₁ => ∃ led : Bool, obj = .ref s.heap.objs.size ∧ s₁ = { s with heap := s.heap.push { cls := .type "set", dict := none, data := .set #[] 0 (.fresh 0 0 led) } }) fun led => ⟨led, rfl, rfl⟩) fun r s₁ hr => ?_
  cases r with
  | error e => exact hr
  | ok fl =>
    cases fl with
    | ret obj =>
      obtain ⟨led, rfl, rfl⟩ := hr
      have hS : (s.heap.push { cls := .type "set", dict := none, data := .set #[] 0 (.fresh 0 0 led) }).get? s.heap.objs.size = some { cls := .type "set", dict := none, data := .set #[] 0 (.fresh 0 0 led) } := Heap.get?_push_size _ rfl
      have hT : Shared.TypeIs { s with heap := s.heap.push { cls := .type "set", dict := none, data := .set #[] 0 (.fresh 0 0 led) } } (.ref s.heap.objs.size) "set" := ⟨_, hS, rfl⟩
      have hli := PySem.F.called_set.init.lookup
      have hbi := PySem.F.called_set.init.bind (.ref s.heap.objs.size)
      repeat (any_goals (first | assumption | wp_step))
      refine codeAny_mono (codeAny_call_builtin (R := wants (fun r s₂ => r = .none ∧ ∃ h' tk, s₂ = { s with heap := h', toks := tk } ∧
          h'.SetOf (mixKind prog w) s.heap.objs.size (memS (metS val items.size)) (metS val items.size).length ∧
          (∀ b o, b < s.heap.objs.size → s.heap.get? b = some o → h'.get? b = some o)) E) PySem.F.called_set.init.plain PySem.F.entry_set_init (check_set_init_1 hT ?_)) fun r₂ s₂ hr₂ => ?_
      · obtain ⟨ol, hol, hcl, nl, hdl⟩ := hl
        obtain ⟨ocls, odict, odata, oslots⟩ := ol
        simp only at hcl hdl
        subst hcl; subst hdl
        have hol' : (s.heap.push { cls := .type "set", dict := none, data := .set #[] 0 (.fresh 0 0 led) }).get? l = some { cls := .type "list", dict := odict, data := .seq items nl, slots := oslots } := Heap.get?_push_of_some _ hol
        have hsls := PySem.F.sub_list_set
        have hslf := PySem.F.sub_list_frozenset
        have hne : (Value.type "list" == Value.type "dict") = false := by decide
        have hl1 : (s.heap.push { cls := .type "set", dict := none, data := .set #[] 0 (.fresh 0 0 led) }).IsList l items := ⟨_, hol', rfl, nl, rfl⟩
        unfold Builtin.«set.__init__» noKeywords Builtin.Frozenset.updateFrom
        generalize hPI : pyIter = PI
        wp_walk
        subst hPI
        refine wpAny_pyIter_list hl1 ?_
        refine wpAny_bind (wpAny_runValue ?_)
        have hlS : l < s.heap.objs.size := Heap.lt_size hol
        have hh3 : A.in1.in1.in1.handled = none := by simp [hh]
        have hneI : l ≠ (s.heap.push { cls := .type "set", dict := none, data := .set #[] 0 (.fresh 0 0 led) }).objs.size := by
          rw [Heap.size_push]; exact Nat.ne_of_lt (Nat.lt_succ_of_lt hlS)
        have hSf : s.heap.objs.size ∉ [(s.heap.push { cls := .type "set", dict := none, data := .set #[] 0 (.fresh 0 0 led) }).objs.size, l] := by
          rw [Heap.size_push]; simp only [List.mem_cons, List.mem_singleton, List.not_mem_nil, or_false, not_or]
          exact ⟨Nat.ne_of_lt (Nat.lt_succ_self _), Nat.ne_of_gt hlS⟩
        refine code_updateK ((Walks.list hh3 _ l hneI items).toS) s.heap.objs.size hSf val hi hb (items.size - 0) 0 _ (by omega) (Nat.zero_le _)
          ⟨⟨_, Heap.get?_push_size _ rfl, rfl, rfl⟩, (hl1.push _)⟩ ?hS0 ?hR
        case hS0 =>
          have hget : ((s.heap.push { cls := .type "set", dict := none, data := .set #[] 0 (.fresh 0 0 led) }).push { cls := .type "list_iterator", data := .fields #[.ref l, .int 0 0] }).get? s.heap.objs.size
              = some { cls := .type "set", dict := none, data := .set #[] 0 (.fresh 0 0 led) } := Heap.get?_push_of_some _ hS
          exact setOf_congr (set_at hget) (fun _ => rfl) rfl
        case hR =>
          intro s' hm hS'
          obtain ⟨h', g', d', tk', os'⟩ := s'
          have eg : g' = s.gens := hm.gens
          have ed : d' = s.drawn := hm.drawn
          have eo : os' = s.os := hm.os
          subst eg; subst ed; subst eo
          show wpAny _ _ _ _ _ _
          refine wpAny_pure ?_
          show wpAny _ _ (ret Value.none) _ _ _
          refine wpAny_pure ⟨rfl, h', tk', rfl, hS', fun b o hb e => ?_⟩
          have hb1 : b ≠ s.heap.objs.size := Nat.ne_of_lt hb
          have hb2 : b ≠ (s.heap.push { cls := .type "set", dict := none, data := .set #[] 0 (.fresh 0 0 led) }).objs.size := by
            rw [Heap.size_push]; exact Nat.ne_of_lt (Nat.lt_succ_of_lt hb)
          exact hm.heap b o (by simp only [List.mem_cons, List.mem_singleton, List.not_mem_nil, or_false, not_or]; exact ⟨hb1, hb2⟩) (Heap.get?_push_of_some _ (Heap.get?_push_of_some _ e))
      · cases r₂ with
        | error e => exact hr₂
        | ok fl₂ =>
          cases fl₂ with
          | ret r =>
            obtain ⟨rfl, h', tk, rfl, hS', hk'⟩ := hr₂
            repeat (any_goals (first | assumption | wp_step))
            exact h _ _ hS' hk'
          | next => exact False.elim hr₂
          | brk => exact False.elim hr₂
          | cont => exact False.elim hr₂
    | next => exact False.elim hr
    | brk => exact False.elim hr
    | cont => exact False.elim hr
end
end Dl

set_option Elab.async false
set_option linter.all false
set_option maxRecDepth 100000
set_option maxHeartbeats 4000000
namespace Dl
open PySem L2
/-! ### len(set(xs)) -/
def keysD : List D → Option (List Key)
  | [] => some []
  | d :: ds => match keyD d, keysD ds with
    | some k, some ks => some (k :: ks)
    | _, _ => none
def lenSetD : D → Option D
  | .lst ds => match keysD ds with
    | some ks => if ks.length ≤ 1000 then some (.int (ks.foldl dedS []).length) else none
    | none => none
  | _ => none
theorem metS_list (ks : List Key) : metS (fun i => ks.getD i (.inl 0)) ks.length = ks.foldl dedS [] := by
  unfold metS
  congr 1
  apply List.ext_getElem (by simp)
  intro i h1 h2
  simp [h2]
theorem keysD_rep {K : PySem.W.Frag} {mg : Str → Option Value} {F H : Hp} (s : Same F H) : ∀ {ds : List D} {vs : List V} {ks : List Key}, repL K mg F ds vs → keysD ds = some ks → vs = ks.map kV
  | [], vs, ks, r, e => by
    cases e
    cases r
    rfl
  | d :: ds, vs, ks, r, e => by
    obtain ⟨v, vs', rfl, r1, r2⟩ := r
    unfold keysD at e
    cases e1 : keyD d with
    | none => simp [e1] at e
    | some k =>
      cases e2 : keysD ds with
      | none => simp [e1, e2] at e
      | some ks' =>
        simp only [e1, e2] at e
        cases e
        rw [List.map_cons, keysD_rep s r2 e2]
        congr 1
        cases d with
        | int i => cases e1; cases r1; rfl
        | str x => cases e1; cases r1; rfl
        | _ => cases e1
section
variable {X : Cx} {W : WX} {a b e e2 : Expr} {pos p pos2 p2 : Pos} {fa fb : En → Res (BV × En)} {k : Nat}
def rLenSetL (X : Cx) : List V → Hp → VK → Prop := fun xs H Q => ∃ (l : Addr) (ks : List Key), xs = [.ref l] ∧ SqL X.K H l (ks.map kV) ∧ ks.length ≤ 1000 ∧ Q (.int (ks.foldl dedS []).length) H
def rLenSet (X : Cx) : V → Hp → VK → Prop := fun v H Q => rLenSetL X [v] H Q
theorem pe_lenSet {t : TE} (hc : X.calm = true) (gl : Gl X "len") (ml : X.mg "len" = none) (gs : Gl X "set") (ms : X.mg "set" = none) (hp : PE X e t) (s1 : starEach [e] X.env = (false, eval e X.env) :: starEach [] X.env := by rfl)
    (s2 : starEach [.Call (.Name "set" p2) [e] [] pos2] X.env = (false, eval (.Call (.Name "set" p2) [e] [] pos2) X.env) :: starEach [] X.env := by rfl) : PE X (.Call (.Name "len" p) [.Call (.Name "set" p2) [e] [] pos2] [] pos) (tUn (rLenSet X) t) := by
  refine ⟨fun pins s σ H Q I h => ?_⟩
  refine wpAny_Call_Name_kw (ld_blt I gl ml boot_len ?_)
  refine PyProof.Rows.callWith_builtin1 ?_ s2 rfl
  rw [s2]
  show wpAny _ _ (spliced ((false, eval _ X.env) :: backTo pos (starEach [] X.env))) _ _ s
  refine Calls.spliced_cons ?_
  refine wpAny_Call_Name_kw (ld_blt I gs ms PyProof.Rows.boot_set ?_)
  refine PyProof.Rows.callWith_type1 (thn ((pa_cons hp pa_nil s1).run pos2 pins s σ H (fun vs H1 => rLenSetL X vs H1 Q) I ?_) fun us st ⟨vs, H1, I1, r1, q1⟩ => ?_) s1 rfl
  · exact h
  · obtain ⟨l, ks, rfl, sq, le, q⟩ := q1
    obtain ⟨u, rfl, rx⟩ := vals1 r1
    cases rx
    obtain ⟨its, rv, pl, hz⟩ := I1.list sq
    have hlen := rv.length
    rw [List.length_map] at hlen
    have hi : ∀ (i : Nat) (v : Value), its.toArray[i]? = some v → (mixKind X.prog X.w).is ((fun i => ks.getD i (.inl 0)) i) v = true := by
      intro i v e
      have e' : its[i]? = some v := by simpa using e
      have li : i < ks.length := by
        have := (List.getElem?_eq_some_iff.mp e').1
        omega
      have ek : ks[i]? = some ks[i] := List.getElem?_eq_getElem li
      obtain ⟨u, eu, rx⟩ := rv.get (i := i) (x := kV ks[i]) (by rw [List.getElem?_map, ek]; rfl)
      rw [e'] at eu
      cases eu
      have : ks.getD i (.inl 0) = ks[i] := by simp [List.getD, ek]
      simp only [this]
      exact kV_is rx
    have sz : its.toArray.size = ks.length := by simp [hlen]
    refine call_setK (I1.ok.hd hc) pl.isList hi (by rw [sz]; unfold scanBound; omega) fun h' tk hS kp => ?_
    refine Calls.spliced_nil ?_
    obtain ⟨o, es, ep, tb, ho, hex, hd, _, _, hb, hf, hn⟩ := hS
    have I2 : Inv X pins σ H1 { st with heap := h', toks := tk } := I1.kept (t' := tk) fun b o e => kp b o (Heap.lt_size e) e
    have en : es.size = (ks.foldl dedS []).length := by rw [hn, sz, metS_list]
    refine call_len_set ho hex hd hf (by unfold scanBound at hb; omega) ?_
    rw [en]
    exact ⟨.int _, H1, I2.tok _, ⟨_, rfl⟩, q⟩
theorem de_lenSet {h : En → Res (D × En)} (hc : X.calm = true) (ml : X.mg "len" = none) (ms : X.mg "set" = none) (ha : DE X W e h) (gl : Gl X "len" := by rfl) (gs : Gl X "set" := by rfl) (s1 : starEach [e] X.env = (false, eval e X.env) :: starEach [] X.env := by rfl)
    (s2 : starEach [.Call (.Name "set" p2) [e] [] pos2] X.env = (false, eval (.Call (.Name "set" p2) [e] [] pos2) X.env) :: starEach [] X.env := by rfl) : DE X W (.Call (.Name "len" p) [.Call (.Name "set" p2) [e] [] pos2] [] pos) (eUn lenSetD (bOf h)) := by
  obtain ⟨t, hp, he⟩ := ha.ex
  refine ⟨_, pe_lenSet hc gl ml gs ms hp s1 s2, un_entE he ?_⟩
  intro B F H r σ v x z Q R h1 h2 k
  unfold lenSetD at h2
  cases x with
  | lst ds =>
    cases e : keysD ds with
    | none => simp [e] at h2
    | some ks =>
      simp only [e] at h2
      split at h2
      · cases h2
        obtain ⟨l, xs, rfl, hH, rx⟩ := h1
        have := keysD_rep (Same.refl F) rx e
        subst this
        exact ⟨l, ks, rfl, SqL.of (R.fh _ _ hH), by assumption, k _ F H R (Same.refl F) rfl⟩
      · cases h2
  | _ => cases h2
/-! ### repr of data -/
mutual
theorem noDict_toPy : ∀ d : D, (toPy d).hasDict = false
  | .lst ds => by rw [toPy, PyData.hasDict]; exact noDict_toPyL ds
  | .tup ds => by rw [toPy, PyData.hasDict]; exact noDict_toPyL ds
  | .bl _ => rfl
  | .int _ => rfl
  | .str _ => rfl
  | .non => rfl
  | .scr _ => rfl
  | .dk _ => rfl
  | .dt _ => rfl
  | .ins _ _ => rfl
  | .ty _ => rfl
  | .gl _ => rfl
  | .own _ => rfl
theorem noDict_toPyL : ∀ ds : List D, PyData.hasDictAll (toPyL ds) = false
  | [] => rfl
  | d :: ds => by rw [toPyL, PyData.hasDictAll, noDict_toPy d, noDict_toPyL ds]; rfl
end
def reprD (d : D) : Option D := match d with
  | .lst _ => if isData d = true ∧ (toPy d).showable = true ∧ (toPy d).depth ≤ 20 ∧ (toPy d).shown.length ≤ 100000 then some (.str (toPy d).shown) else none
  | .tup _ => if isData d = true ∧ (toPy d).showable = true ∧ (toPy d).depth ≤ 20 ∧ (toPy d).shown.length ≤ 100000 then some (.str (toPy d).shown) else none
  | _ => none
def rRepr (X : Cx) : List V → Hp → VK → Prop := fun xs H Q => ∃ (p : Addr) (d : PyData), xs = [.ref p] ∧ Dp X.K H (.ref p) d ∧ d.hasDict = false ∧ d.showable = true ∧ d.depth ≤ 20 ∧ d.shown.length ≤ sizeLine ∧ Q (.str d.shown) H
theorem call_reprD (hr : Room k X.A) : CallR X (.builtin "repr") (rRepr X) := by
  intro pins s σ H xs us Q I r h
  obtain ⟨p, d, rfl, dp, nd, sh, dep, sz, q⟩ := h
  obtain ⟨u, rfl, rx⟩ := vals1 r
  obtain ⟨as, rd⟩ := Dp.reads I d _ u dp rx
  cases rx
  exact repr_of_reads' rd sh (PyData.noDict_hsm nd) hr.gd (by have := hr.un; omega) (fun _ _ e => e) (fun h' u tk kp => ⟨.str _, H, I.kept (t' := tk) kp, ⟨_, rfl⟩, q⟩) sz
theorem uv_reprD : UnV X (fun v H Q => rRepr X [v] H Q) reprD := by
  intro F H v d z Q s h1 h3 k
  have sz : (100000 : Nat) ≤ sizeLine := by decide
  cases d with
  | lst ds =>
    simp only [reprD] at h3
    split at h3
    · rename_i c
      cases h3
      obtain ⟨l, xs, rfl, hH, rx⟩ := id h1
      exact ⟨l, _, rfl, vw_dp s _ _ c.1 h1, noDict_toPy _, c.2.1, c.2.2.1, by have := c.2.2.2; omega, k _ rfl⟩
    · cases h3
  | tup ds =>
    simp only [reprD] at h3
    split at h3
    · rename_i c
      cases h3
      obtain ⟨l, xs, rfl, hH, rx⟩ := id h1
      exact ⟨l, _, rfl, vw_dp s _ _ c.1 h1, noDict_toPy _, c.2.1, c.2.2.1, by have := c.2.2.2; omega, k _ rfl⟩
    · cases h3
  | _ => cases h3
theorem de_reprD (hr : Room k X.A) (hm : X.mg "repr" = none) (ha : DB X W a fa) (hg : Gl X "repr" := by rfl) (hst : starEach [a] X.env = (false, eval a X.env) :: starEach [] X.env := by rfl) : DE X W (.Call (.Name "repr" p) [a] [] pos) (eUn (orU reprB reprD) fa) :=
  (de_reprB hm ha hg hst).or1 (de_b1 (call_reprD hr) uv_reprD hg hm PyProof.Rows.boot_repr ha hst (by decide) (by decide))
end
end Dl

set_option Elab.async false
set_option linter.all false
set_option maxRecDepth 100000
set_option maxHeartbeats 4000000
namespace Dl
open PySem L2
/-! ### x in a tuple -/
def inTup : D → D → Option D
  | x, .tup ds => if okPy x = true ∧ okPy (.tup ds) = true then some (.bl ((toPyL ds).any fun z => PyData.eqv z (toPy x))) else none
  | _, _ => none
def ninTup : D → D → Option D
  | x, .tup ds => if okPy x = true ∧ okPy (.tup ds) = true then some (.bl (!(toPyL ds).any fun z => PyData.eqv z (toPy x))) else none
  | _, _ => none
def rInT (K : PySem.W.Frag) (f : Bool → Bool) : R2 := fun x y H Q => ∃ d ds, Dp K H x d ∧ Dp K H y (.tuple ds) ∧ SeqAt.shaped d = true ∧ SeqAt.shaped (.tuple ds) = true ∧ Q (.bl (f (ds.any fun z => PyData.eqv z d))) H
section
variable {X : Cx} {W : WX} {a b e e2 v : Expr} {pos p tp : Pos} {fa fb : En → Res (BV × En)} {k : Nat}
theorem op_inT (hu : X.A.units + 65 < cLine) : OpR X (compareOp .In) (rInT X.K id) := by
  intro pins s σ H x y v u Q I rx ry h
  obtain ⟨d, ds, hd, he, sd, se, q⟩ := h
  obtain ⟨as, r1⟩ := Dp.reads I d x v hd rx
  obtain ⟨bs, r2⟩ := Dp.reads I (.tuple ds) y u he ry
  exact SeqAt.in_tuple_reads r2 r1 (SeqAt.canLay_of_shaped se) (SeqAt.canLay_of_shaped sd) (PyProof.Rows.room_in_shaped sd hu) ⟨.bl _, H, I, rfl, q⟩
theorem op_ninT (hu : X.A.units + 65 < cLine) : OpR X (compareOp .NotIn) (rInT X.K not) := by
  intro pins s σ H x y v u Q I rx ry h
  obtain ⟨d, ds, hd, he, sd, se, q⟩ := h
  obtain ⟨as, r1⟩ := Dp.reads I d x v hd rx
  obtain ⟨bs, r2⟩ := Dp.reads I (.tuple ds) y u he ry
  exact SeqAt.notIn_tuple_reads r2 r1 (SeqAt.canLay_of_shaped se) (SeqAt.canLay_of_shaped sd) (PyProof.Rows.room_in_shaped sd hu) ⟨.bl _, H, I, rfl, q⟩
theorem ov_inTup : OpV X (rInT X.K id) inTup := by
  intro F H x y d e z Q s h1 h2 h3 k
  unfold inTup at h3
  split at h3
  · split at h3
    · rename_i hc
      cases h3
      obtain ⟨a1, a2⟩ := okPy_parts hc.1
      obtain ⟨b1, b2⟩ := okPy_parts hc.2
      have z := vw_dp s _ y b1 h2
      rw [toPy] at z b2
      exact ⟨_, _, vw_dp s d x a1 h1, z, a2, b2, k _ rfl⟩
    · cases h3
  · cases h3
theorem ov_ninTup : OpV X (rInT X.K not) ninTup := by
  intro F H x y d e z Q s h1 h2 h3 k
  unfold ninTup at h3
  split at h3
  · split at h3
    · rename_i hc
      cases h3
      obtain ⟨a1, a2⟩ := okPy_parts hc.1
      obtain ⟨b1, b2⟩ := okPy_parts hc.2
      have z := vw_dp s _ y b1 h2
      rw [toPy] at z b2
      exact ⟨_, _, vw_dp s d x a1 h1, z, a2, b2, k _ rfl⟩
    · cases h3
  · cases h3
theorem dc_inT (hr : Room k X.A) (ha : DB X W a fa) (hb : DB X W b fb) : DC X W .In a b (eBin inTup fa fb) := dc_op (op_inT (by have := hr.un; omega)) ov_inTup ha hb
theorem dc_ninT (hr : Room k X.A) (ha : DB X W a fa) (hb : DB X W b fb) : DC X W .NotIn a b (eBin ninTup fa fb) := dc_op (op_ninT (by have := hr.un; omega)) ov_ninTup ha hb
theorem dc_inQ (hr : Room k X.A) (ha : DB X W a fa) (hb : DB X W b fb) : DC X W .In a b (eBin (orD inLst inTup) fa fb) := DC.or2 (dc_inL hr ha hb) (dc_inT hr ha hb)
theorem dc_ninQ (hr : Room k X.A) (ha : DB X W a fa) (hb : DB X W b fb) : DC X W .NotIn a b (eBin (orD ninLst ninTup) fa fb) := DC.or2 (dc_ninL hr ha hb) (dc_ninT hr ha hb)
/-! ### {(..): n}, of constants -/
theorem pe_dispC {es : List Expr} {x1} {ks : List Key} {n : Int} (hu : X.A.units + 1 < cLine) (hk : PA X es (fun _ H Q => Q (ks.map kV) H)) (hv : PE X v (fun _ H Q => Q (.int n) H)) (hz : ks.length ≤ 100) :
    PE X (.Dict [some (.Tuple es x1 tp)] [v] pos) (fun σ H Q => ∀ p q, H p = none → H q = none → p ≠ q → Q (.ref p) (upd (upd H q (.tup (ks.map kV))) p (.dT [(ks, .int n)]))) := by
  refine ⟨fun pins s σ H Q I h => ?_⟩
  have hn := I.hok.fresh (Nat.le_refl s.heap.objs.size)
  have I1 := I.laid (a := s.heap.objs.size) (o := .dT []) (h' := s.heap.push { cls := .type "dict", data := .dict #[] }) (t' := s.toks) (fun _ _ q => Heap.get?_push_of_some _ q) (Nat.le_refl _) (dt_empty s.heap I.big)
  have hs : (100 : Nat) ≤ sizeLine := by decide
  rw [arm_eval_Dict, zip_pairTrees [some (.Tuple es x1 tp)] [v] X.env pos rfl rfl, dictDisplay_pairs (pairTrees [some (.Tuple es x1 tp)] [v] X.env pos) (by simp [pairTrees]) (by simp [pairTrees])]
  refine wpAny_bind (wpAny_standAt (wpAny_bind ?_))
  unfold subDict
  refine wpAny_bind (wpAny_alloc ?_)
  refine wpAny_bind (wpAny_holding ?_)
  rw [if_pos (by simp [pairTrees])]
  refine wpAny_bind (thn ((pps_cons (pe_tup hk) hv pps_nil).run pins _ σ _ (fun ps H2 => ∃ q, ps = [(.ref q, .int n)] ∧ H q = none ∧ s.heap.objs.size ≠ q ∧ H2 = upd (upd H s.heap.objs.size (.dT [])) q (.tup (ks.map kV))) I1 ?_) fun ws s2 ⟨ps, H2, I2, rel, q, ep, hq, nq, eH⟩ => ?_)
  · refine ⟨by rw [List.length_map]; omega, fun q hq => ⟨q, rfl, ?_, ?_, rfl⟩⟩
    · by_cases e : q = s.heap.objs.size
      · rw [e]; exact hn
      · rw [upd_ne e] at hq; exact hq
    · intro e
      rw [← e, upd_same] at hq
      cases hq
  · subst ep eH
    cases rel with
    | @cons x y xs ys h1 t =>
      cases t
      obtain ⟨u1, u2⟩ := y
      obtain ⟨r1, r2⟩ := h1
      cases (show u1 = Value.ref q from r1)
      have e1 : upd (upd H s.heap.objs.size (.dT [])) q (.tup (ks.map kV)) s.heap.objs.size = some (.dT []) := by rw [upd_ne nq, upd_same]
      have e2 : upd (upd H s.heap.objs.size (.dT [])) q (.tup (ks.map kV)) q = some (.tup (ks.map kV)) := upd_same
      obtain ⟨z, hd, xs, rel, dd⟩ := dt_of I2.hok e1
      cases rel
      refine wpAny_holding ?_
      refine wpAny_bind ?_
      show wpAny _ _ (forIn [(Value.ref q, u2)] PUnit.unit _) _ _ s2
      rw [List.forIn_cons]
      refine wpAny_bind (wpAny_bind (wpAny_dictSet_heap (hsz := Nat.zero_le _) (show (tupleKind (mixKind X.prog X.w)).room X.A from by first | exact hu | (have := hu; show X.A.units < cLine; omega)) (key_of I2.hok e2) dd fun h' dd' hs' => wpAny_pure ?_))
      show wpAny _ _ (forIn ([] : List (Value × Value)) PUnit.unit _) _ _ _
      rw [List.forIn_nil]
      refine wpAny_pure (wpAny_pure (wpAny_pure (wpAny_pure ?_)))
      obtain ⟨o, es', ep, ho, h2, h3, h4, _, h5⟩ := dd'
      refine ⟨.ref s.heap.objs.size, _, d_write (ob := .dT [(ks, .int n)]) I2 (by rw [e1]; exact True.intro) hs' ⟨o, ho⟩ ⟨by show 1 ≤ sizeLine; omega, hd, _, .cons ⟨rfl, ?_, r2⟩ .nil, o, es', ep, ho, h2, h3, h4, h5⟩, rfl, ?_⟩
      · rw [upd_ne (Ne.symm nq)]
        exact e2
      · have eq : upd (upd (upd H s.heap.objs.size (.dT [])) q (.tup (ks.map kV))) s.heap.objs.size (.dT [(ks, .int n)]) = upd (upd H q (.tup (ks.map kV))) s.heap.objs.size (.dT [(ks, .int n)]) := by
          funext b
          by_cases hb : b = s.heap.objs.size
          · subst hb
            rw [upd_same, upd_same]
          · rw [upd_ne hb, upd_ne hb]
            by_cases hc : b = q
            · subst hc
              rw [upd_same, upd_same]
            · rw [upd_ne hc, upd_ne hc, upd_ne hb]
        have := h _ q hn hq nq
        rw [← eq] at this
        exact this
def eDispC (ks : List Key) (n : Int) : En → Res (D × En) := fun r => .ok (.dt [(ks, .int n)], r)
theorem dn_dispC {es : List Expr} {x1} {ks : List Key} {n : Int} (hr : Room k X.A) (hk : PA X es (fun _ H Q => Q (ks.map kV) H)) (hv : PE X v (fun _ H Q => Q (.int n) H)) (hz : ks.length ≤ 100) : DN X W (.Dict [some (.Tuple es x1 tp)] [v] pos) (eDispC ks n) := by
  refine ⟨_, pe_dispC (by have := hr.un; omega) hk hv hz, fun B F H r σ Q R p => ?_⟩
  have p' : Po X.K X.mg W B F σ (rN X.K X.mg) Q (.ok (D.dt [(ks, .int n)], r)) := p
  intro a q ha hq ne
  have fq := R.fh.free hq
  have R1 := R.newF (o := .tup (ks.map kV)) hq
  have ha' : upd H q (.tup (ks.map kV)) a = none := by rw [upd_ne ne]; exact ha
  exact p' _ _ _ (R1.newO ha') (same_new fq) ⟨a, rfl, R1.fh.free ha', (R1.new_ne ha').1, (R1.new_ne ha').2, R1.loose_new ha', [(ks, .int n)], upd_same, by simp [repT, rep]⟩
end
end Dl

set_option Elab.async false
set_option linter.all false
set_option maxRecDepth 100000
set_option maxHeartbeats 4000000
namespace Dl
open PySem L2
/-! ### xs[::-1] -/
def revD : D → Option D
  | .lst ds => some (.lst ds.reverse)
  | _ => none
theorem repL_rev {K : PySem.W.Frag} {mg : Str → Option Value} {F : Hp} : ∀ {ds : List D} {vs : List V}, repL K mg F ds vs → repL K mg F ds.reverse vs.reverse
  | [], _, h => by
    cases h
    exact rfl
  | d :: ds, _, h => by
    obtain ⟨w, ws, rfl, h1, h2⟩ := h
    rw [List.reverse_cons, List.reverse_cons]
    exact repL_app (repL_rev h2) ⟨w, [], rfl, h1, rfl⟩
section
variable {X : Cx} {W : WX} {a b e e2 v tg : Expr} {pos p p1 p2 p3 tp apos cpos : Pos} {fa fb : En → Res (BV × En)} {k : Nat}
theorem dn_rev {kk : Nat} (ha : DB X W a fa) : DN X W (.Subscript a (.Slice none none (some (.UnaryOp .USub (.Constant (.int 1) kk p1) p2)) p3) pos) (eUn revD fa) := by
  obtain ⟨t, hp, he⟩ := ha.ex
  refine ⟨_, pe_revL hp, un_ent (rr := fun x H1 Q => ∃ a xs, x = .ref a ∧ SqL X.K H1 a xs ∧ ∀ p, H1 p = none → Q (.ref p) (upd H1 p (.lst xs.reverse))) he (unN_hr ?_)⟩
  intro F H v d z Q s h1 h3 k
  cases d with
  | lst ds =>
    cases h3
    obtain ⟨l, xs, rfl, hH, rx⟩ := h1
    exact ⟨l, xs, rfl, SqL.of hH, fun q hq => k q _ hq ⟨_, upd_same, repL_rev rx⟩⟩
  | _ => cases h3
end
/-! ### walks over dicts -/
def keysOfD (kvs : List (Key × D)) : List D := kvs.map fun kv => keyE kv.1
def iKeyD (f : En → Res (D × En)) : En → Res (List D × En) := fun r => (f r).bind fun p => match p.1 with
  | .dk kvs => .ok (keysOfD kvs, p.2)
  | _ => .bad
def iValD (f : En → Res (D × En)) : En → Res (List D × En) := fun r => (f r).bind fun p => match p.1 with
  | .dk kvs => .ok (kvs.map (·.2), p.2)
  | _ => .bad
def iItmD (f : En → Res (D × En)) : En → Res (List D × En) := fun r => (f r).bind fun p => match p.1 with
  | .dk kvs => .ok (kvs.map fun kv => .tup [keyE kv.1, kv.2], p.2)
  | _ => .bad
section
variable {K : PySem.W.Frag} {mg : Str → Option Value} {F : Hp}
theorem repK_at : ∀ {kvs : List (Key × D)} {ws : List (Key × V)} {i : Nat} {k : Key} {d : D}, repK K mg F kvs ws → kvs[i]? = some (k, d) → ∃ v, ws[i]? = some (k, v) ∧ rep K mg F d v
  | [], _, i, _, _, _, e => by simp at e
  | (k0, d0) :: kvs, _, 0, k, d, ⟨w, ws, rfl, h1, h2⟩, e => by
    simp at e
    obtain ⟨rfl, rfl⟩ := e
    exact ⟨w, rfl, h1⟩
  | (k0, d0) :: kvs, _, i + 1, k, d, ⟨w, ws, rfl, h1, h2⟩, e => repK_at (i := i) h2 (by simpa using e)
theorem wk_keys {kvs : List (Key × D)} {ws : List (Key × V)} {a : Addr} {o : Obj} (ha : F a = some (.frz o (.dK ws))) (h : repK K mg F kvs ws) : Wk K mg F (keysOfD kvs) (Itk a o ws) := by
  intro F' H' s1 s2
  have hH := s2 _ _ (s1 _ _ ha)
  have hl := repK_len h
  unfold keysOfD
  refine ⟨fun i d e => ?_, hH, by rw [List.length_map]; omega⟩
  rw [List.getElem?_map] at e
  cases q : kvs[i]? with
  | none =>
    rw [q] at e
    cases e
  | some p =>
    rw [q] at e
    cases e
    have lt := (List.getElem?_eq_some_iff.mp q).1
    refine ⟨⟨hH, by omega⟩, fun x H'' y => ?_⟩
    obtain ⟨rfl, k, v, hk, rfl⟩ := y
    obtain ⟨v', hv, _⟩ := repK_at (k := p.1) (d := p.2) h q
    rw [hk] at hv
    cases hv
    exact ⟨F', Same.refl F', Same.refl _, s2, fun a h1 _ => h1, keyE_rep _⟩
theorem wk_vals {kvs : List (Key × D)} {ws : List (Key × V)} {a : Addr} {o : Obj} (ha : F a = some (.frz o (.dK ws))) (h : repK K mg F kvs ws) : Wk K mg F (kvs.map (·.2)) (Itd a o ws) := by
  intro F' H' s1 s2
  have hH := s2 _ _ (s1 _ _ ha)
  have hl := repK_len h
  refine ⟨fun i d e => ?_, hH, by rw [List.length_map]; omega⟩
  rw [List.getElem?_map] at e
  cases q : kvs[i]? with
  | none =>
    rw [q] at e
    cases e
  | some p =>
    rw [q] at e
    cases e
    have lt := (List.getElem?_eq_some_iff.mp q).1
    refine ⟨⟨hH, by omega⟩, fun x H'' y => ?_⟩
    obtain ⟨rfl, k, hk⟩ := y
    obtain ⟨v', hv, hr⟩ := repK_at (k := p.1) (d := p.2) h q
    rw [hk] at hv
    cases hv
    exact ⟨F', Same.refl F', Same.refl _, s2, fun a h1 _ => h1, rep_mono s1 _ _ hr⟩
theorem wk_items {kvs : List (Key × D)} {ws : List (Key × V)} {a : Addr} {o : Obj} (ha : F a = some (.frz o (.dK ws))) (h : repK K mg F kvs ws) : Wk K mg F (kvs.map fun kv => .tup [keyE kv.1, kv.2]) (Iti a o ws) := by
  intro F' H' s1 s2
  have hH := s2 _ _ (s1 _ _ ha)
  have hl := repK_len h
  refine ⟨fun i d e => ?_, hH, by rw [List.length_map]; omega⟩
  rw [List.getElem?_map] at e
  cases q : kvs[i]? with
  | none =>
    rw [q] at e
    cases e
  | some p =>
    rw [q] at e
    cases e
    have lt := (List.getElem?_eq_some_iff.mp q).1
    refine ⟨⟨hH, by omega⟩, fun x H'' y => ?_⟩
    obtain ⟨T, k, v, hk, rfl, hT, rfl⟩ := y
    obtain ⟨v', hv, hr⟩ := repK_at (k := p.1) (d := p.2) h q
    rw [hk] at hv
    cases hv
    have fT : F' T = none := s2.free hT
    refine ⟨upd F' T (.tup [kV p.1, v]), same_new fT, same_new hT, fun a u e => ?_, fun a h1 h2 => ?_, T, _, rfl, SqT.of upd_same, _, _, rfl, keyE_rep _, _, _, rfl, rep_mono (s1.trans (same_new fT)) _ _ hr, rfl⟩
    · by_cases q : a = T
      · subst q
        rw [upd_same] at e ⊢
        exact e
      · rw [upd_ne q] at e ⊢
        exact s2 _ _ e
    · have q : a ≠ T := fun z => h2 (by rw [z]; exact hT)
      rw [upd_ne q]
      exact h1
end
section
variable {X : Cx} {W : WX} {a b e e2 v tg : Expr} {pos p p1 p2 p3 tp apos cpos : Pos} {fa fb : En → Res (BV × En)} {f : En → Res (D × En)} {k : Nat}
theorem di_keys (h : DE X W e f) : DI X W tg e (iKeyD f) := by
  obtain ⟨t, hp, he⟩ := h.ex
  refine ⟨_, pi_keys hp, fun B F H r σ Q R p => he.to R p fun d r1 v F1 H1 R1 s1 x1 p1 => ?_⟩
  cases d with
  | dk kvs =>
    obtain ⟨a, o, ws, rfl, ha, hr⟩ := x1
    exact ⟨a, o, rfl, .inl ⟨ws, R1.fh _ _ ha, p1 _ F1 H1 R1 (Same.refl F1) (wk_keys ha hr)⟩⟩
  | _ => exact p1.elim
theorem di_vals (h : DE X W e f) (hbase : attributeBase e "values" X.env (eval e X.env) = eval e X.env := by rfl) (hline : (apos.endLine == cpos.line) = true := by rfl) : DI X W tg (.Call (.Attribute e "values" apos) [] [] cpos) (iValD f) := by
  obtain ⟨t, hp, he⟩ := h.ex
  refine ⟨_, pi_values hp hbase hline, fun B F H r σ Q R p => he.to R p fun d r1 v F1 H1 R1 s1 x1 p1 => ?_⟩
  cases d with
  | dk kvs =>
    obtain ⟨a, o, ws, rfl, ha, hr⟩ := x1
    exact ⟨a, o, ws, rfl, R1.fh _ _ ha, p1 _ F1 H1 R1 (Same.refl F1) (wk_vals ha hr)⟩
  | _ => exact p1.elim
theorem di_items {elts : List Expr} {kk : Nat} {tpos : Pos} (h : DE X W e f) (hbase : attributeBase e "items" X.env (eval e X.env) = eval e X.env := by rfl) (hline : (apos.endLine == cpos.line) = true := by rfl) :
    DI X W (.Tuple elts kk tpos) (.Call (.Attribute e "items" apos) [] [] cpos) (iItmD f) := by
  obtain ⟨t, hp, he⟩ := h.ex
  refine ⟨_, pi_items hp hbase hline, fun B F H r σ Q R p => he.to R p fun d r1 v F1 H1 R1 s1 x1 p1 => ?_⟩
  cases d with
  | dk kvs =>
    obtain ⟨a, o, ws, rfl, ha, hr⟩ := x1
    exact ⟨a, o, ws, rfl, R1.fh _ _ ha, p1 _ F1 H1 R1 (Same.refl F1) (wk_items ha hr)⟩
  | _ => exact p1.elim
end
end Dl

set_option Elab.async false
set_option linter.all false
set_option maxRecDepth 100000
set_option maxHeartbeats 4000000
namespace Dl
open PySem L2
/-! ### dict comprehensions -/
def dcLoop (g : D → En → Res En) (t : En → Res (Bool × En)) (ek e : En → Res (D × En)) (vs : List Nat) : List D → En → List (Key × D) → Res (List (Key × D) × En)
  | [], r, acc => .ok (acc, r)
  | d :: ds, r, acc => (noX (g d r)).bind fun r1 => (noX (t r1)).bind fun p => match p.1 with
    | true => (noX (ek p.2)).bind fun q => (noX (e q.2)).bind fun z => match keyD q.1 with
      | some k => dcLoop g t ek e vs ds (wipeE z.2 vs) (putKD acc k z.1)
      | none => .bad
    | false => dcLoop g t ek e vs ds (wipeE p.2 vs) acc
def eDc (s : En → Res (List D × En)) (g : D → En → Res En) (t : En → Res (Bool × En)) (ek e : En → Res (D × En)) (vs : List Nat) : En → Res (D × En) := fun r =>
  (s r).bind fun p => if p.1.length ≤ 100000 then (noX (dcLoop g t ek e vs p.1 (wipeE p.2 vs) [])).bind fun q => .ok (.dk q.1, restore p.2 vs q.2) else .bad
theorem putKD_len (kvs : List (Key × D)) (k : Key) (d : D) : (putKD kvs k d).length ≤ kvs.length + 1 := by
  unfold putKD
  split
  · rw [List.length_map]; omega
  · rw [List.length_append, List.length_singleton]; omega
section
variable {X : Cx} {W : WX} {pos : Pos}
theorem dc_ent {K : PySem.W.Frag} {mg : Str → Option Value} {wi : TI} {s : En → Res (List D × En)} {vs : List Nat} {g : D → En → Res En} {t : En → Res (Bool × En)} {ek e : En → Res (D × En)} (hi : Ent K mg W (rI K mg) wi s) :
    Ent K mg W (rN K mg) (tDc wi (tOfG K mg W0 vs g) (tOf K mg W0 rT t) (tOf K mg W0 (rE K mg) ek) (tOf K mg W0 (rE K mg) e) vs) (eDc s g t ek e vs) := by
  intro B F H r σ Q R p
  refine hi.to R p fun ds r1 J F1 H1 R1 s1 wk p1 => ?_
  intro Dl hD
  by_cases hz : ds.length ≤ 100000
  · simp only [if_pos hz] at p1
    obtain ⟨nB, nb⟩ := R1.new_ne hD
    have fD : F1 Dl = none := R1.fh.free hD
    have bF : B.F Dl = none := R1.f0.free fD
    refine ⟨fun i m H' => m = ds.length - i ∧ i ≤ ds.length ∧ ∃ F' r0 acc ac, Rel K mg B F' H' (wipeE r0 vs) (wipe σ vs) ∧ Same F1 F' ∧ H' Dl = some (.dK ac) ∧ F' Dl = none ∧ Loose H' (wipeE r0 vs) (wipe σ vs) Dl ∧ repK K mg F' acc ac ∧ acc.length ≤ i ∧
        Po K mg W B F' σ (rN K mg) Q ((noX (dcLoop g t ek e vs (ds.drop i) (wipeE r0 vs) acc)).bind fun q => .ok (.dk q.1, restore r1 vs q.2)), ⟨ds.length, by simp, Nat.zero_le _, F1, r1, [], [], (R1.newO hD).wipe vs, Same.refl F1, upd_same, fD, ?_, rfl, Nat.zero_le _, by simpa using p1⟩, ?_⟩
    · exact (R1.wipe vs).loose_new hD
    · rintro i m H' ⟨rfl, hle, F', r0, acc, ac, R', s', hH, hF, hl, ra, la, p'⟩
      obtain ⟨w1, w2⟩ := wk F' H' s' R'.fh
      by_cases hlt : i < ds.length
      · have ei : ds[i]? = some ds[i] := List.getElem?_eq_getElem hlt
        obtain ⟨go, yl⟩ := w1 i _ ei
        rw [List.drop_eq_getElem_cons hlt] at p'
        refine .inr ⟨go, fun H2 => ∃ F2 r2 acc2 ac2, Rel K mg B F2 H2 (wipeE r2 vs) (wipe σ vs) ∧ Same F1 F2 ∧ H2 Dl = some (.dK ac2) ∧ F2 Dl = none ∧ Loose H2 (wipeE r2 vs) (wipe σ vs) Dl ∧ repK K mg F2 acc2 ac2 ∧ acc2.length ≤ i + 1 ∧
          Po K mg W B F2 σ (rN K mg) Q ((noX (dcLoop g t ek e vs (ds.drop (i + 1)) (wipeE r2 vs) acc2)).bind fun q => .ok (.dk q.1, restore r1 vs q.2)), fun H2 ⟨F2, r2, acc2, ac2, h2⟩ => ⟨ds.length - (i + 1), by omega, rfl, hlt, F2, r2, acc2, ac2, h2⟩, fun x H'' y => ?_⟩
        obtain ⟨F'', f1, f2, f3, f4, f5⟩ := yl x H'' y
        have Rg := ((R'.guard hH hF nB nb hl).grow f2 f1 f3 f4)
        have p2 := Po.weak p' f1
        unfold dcLoop at p2
        refine ⟨_, F'', wipeE r0 vs, ds[i], Rg, f5, ?_⟩
        rcases noX_cases (g ds[i] (wipeE r0 vs)) with ⟨r2, q1, q2⟩ | q2
        · rw [q1]
          rw [q2] at p2
          intro σ2 F2 H2 R2 s2 off2
          refine ⟨by rw [Off.wipe off2]; exact Off.wipe off_wipe, _, F2, r2, R2, ?_⟩
          have p3 := Po.weak p2 s2
          simp only [bind_ok] at p3
          rcases noX_cases (t r2) with ⟨⟨c, r3⟩, q3, q4⟩ | q4
          · rw [q3]
            rw [q4] at p3
            intro c' F3 H3 R3 s3 x3
            cases (show c = c' from x3)
            have p4 := Po.weak p3 s3
            simp only [bind_ok] at p4
            cases c with
            | true =>
              rw [if_pos rfl]
              refine ⟨_, F3, r3, R3, ?_⟩
              simp only at p4
              rcases noX_cases (ek r3) with ⟨⟨dk, r4k⟩, k5, k6⟩ | k6
              · rw [k5]
                rw [k6] at p4
                intro vk F4k H4k R4k s4k x4k
                refine ⟨_, F4k, r4k, R4k, ?_⟩
                have p4' := Po.weak p4 s4k
                simp only [bind_ok] at p4'
                rcases noX_cases (e r4k) with ⟨⟨d, r4⟩, q5, q6⟩ | q6
                · rw [q5]
                  rw [q6] at p4'
                  intro v F4 H4 R4 s4 x4
                  have p5 := Po.weak p4' s4
                  simp only [bind_ok] at p5
                  cases ky : keyD dk with
                  | none =>
                    simp only [ky] at p5
                    exact p5.elim
                  | some k =>
                    simp only [ky] at p5
                    have ekk : vk = kV k := keyD_rep ky (vw_of R4k.fh _ _ x4k)
                    obtain ⟨R5, hH5, hF5, hl5⟩ := R4.unguard nB nb bF
                    have sall := ((((s'.trans f1).trans s2).trans s3).trans s4k).trans s4
                    have sall2 := (((f1.trans s2).trans s3).trans s4k).trans s4
                    refine ⟨ac, k, ekk, hH5, sl100k (by rw [repK_len ra]; omega), F4, r4, putKD acc k d, putK ac k v, ?_, sall, upd_same, hF5, ?_, repK_put x4 (repK_mono sall2 _ _ ra), by have := putKD_len acc k d; omega, p5⟩
                    · have z := (R5.poke (o' := .dK (putK ac k v)) hF5 nB nb hl5).wipe vs
                      have z2 : wipe σ2 vs = wipe σ vs := by rw [Off.wipe off2]; exact Off.wipe off_wipe
                      rw [z2] at z
                      exact z
                    · have z2 : wipe σ2 vs = wipe σ vs := by rw [Off.wipe off2]; exact Off.wipe off_wipe
                      have Rg4 := R4.wipe vs
                      rw [z2] at Rg4
                      exact (Rg4.unguard nB nb bF).2.2.2.poke
                · rw [q6] at p4'
                  exact p4'.elim
              · rw [k6] at p4
                exact p4.elim
            | false =>
              rw [if_neg Bool.false_ne_true]
              simp only at p4
              obtain ⟨R5, hH5, hF5, hl5⟩ := R3.unguard nB nb bF
              have z2 : wipe σ2 vs = wipe σ vs := by rw [Off.wipe off2]; exact Off.wipe off_wipe
              refine ⟨F3, r3, acc, ac, ?_, ((s'.trans f1).trans s2).trans s3, hH5, hF5, ?_, repK_mono ((f1.trans s2).trans s3) _ _ ra, by omega, p4⟩
              · have z := R5.wipe vs
                rw [z2] at z
                exact z
              · have Rg4 := R3.wipe vs
                rw [z2] at Rg4
                exact (Rg4.unguard nB nb bF).2.2.2
          · rw [q4] at p3
            exact p3.elim
        · rw [q2] at p2
          exact p2.elim
      · have ei : i = ds.length := by omega
        subst ei
        rw [List.drop_length] at p'
        refine .inl ⟨w2, ?_⟩
        have p2 : Po K mg W B F' σ (rN K mg) Q (.ok (.dk acc, restore r1 vs (wipeE r0 vs))) := p'
        have R3 := Rel.restore R1 s' vs _ R'.unwipe
        refine p2 _ F' H' R3 (Same.refl F') ⟨Dl, rfl, hF, nB, nb, ?_, ac, hH, ra⟩
        have Rg3 := Rel.restore (R1.newO (o := .dK ac) hD |>.guard upd_same fD nB nb (R1.loose_new hD)) s' vs _ (R'.unwipe.guard hH hF nB nb ?_)
        · exact (Rg3.unguard nB nb bF).2.2.2
        · intro j2 s2 q2 hj2 mj2 ej2
          have nj := wipeE_some hj2
          exact hl j2 s2 q2 hj2 mj2 (by rw [wipe_get, if_neg nj]; exact ej2)
  · simp only [if_neg hz] at p1
    exact p1.elim
theorem dn_dc {kx vx tg iter : Expr} {ifs : List Expr} {scope : Scope} {own : List (Str × Nat)} {s : En → Res (List D × En)} {g : D → En → Res En} {t : En → Res (Bool × En)} {fk f : En → Res (D × En)} (hc : X.calm = true) (hN : X.N.Nodup) (hi : DI X W tg iter s) (ok : BlkOk X.N X.env.scope scope own)
    (hg : ∀ (s : Shared) (H : Hp) (C : Addr) (cl : List (Str × Addr)) (fp : List Addr), DG (X.blk s H scope (compEnvC scope cl C X.env) fp) W0 tg (own.map (·.2)) g)
    (ht : ∀ (s : Shared) (H : Hp) (C : Addr) (cl : List (Str × Addr)) (fp : List Addr), DTs (X.blk s H scope (compEnvC scope cl C X.env) fp) W0 ifs t)
    (hk : ∀ (s : Shared) (H : Hp) (C : Addr) (cl : List (Str × Addr)) (fp : List Addr), DE (X.blk s H scope (compEnvC scope cl C X.env) fp) W0 kx fk)
    (he : ∀ (s : Shared) (H : Hp) (C : Addr) (cl : List (Str × Addr)) (fp : List Addr), DE (X.blk s H scope (compEnvC scope cl C X.env) fp) W0 vx f) (hs : ∀ x, foldedSetIterable iter X.env x = pure x := by intro _; rfl) :
    DN X W (.DictComp kx vx [⟨tg, iter, ifs, 0⟩] scope pos) (eDc s g t fk f (own.map (·.2))) := by
  obtain ⟨ti, pi, ei⟩ := hi.ex
  exact ⟨_, pe_dc hc hN pi ok (fun a b c d e => (hg a b c d e).can) (fun a b c d e => (ht a b c d e).can) (fun a b c d e => (hk a b c d e).can) (fun a b c d e => (he a b c d e).can) hs, dc_ent ei⟩
end
end Dl

set_option Elab.async false
set_option linter.all false
set_option maxRecDepth 100000
set_option maxHeartbeats 4000000
namespace Dl
open PySem L2
/-! ### a slot's object lent: nothing of it changes meanwhile -/
def lendB (B : Bg) (H : Hp) (A : List Addr) : Sl → Bg
  | .bo _ => ⟨B.F, fun a => if a ∈ A ∨ a ∈ B.bs then H a else B.H a, []⟩
  | _ => ⟨B.F, fun a => if a ∈ A then H a else B.H a, B.bs⟩
section
variable {K : PySem.W.Frag} {mg : Str → Option Value} {B : Bg} {F F' H H' : Hp} {r r' : En} {σ : L2.St} {i : Nat} {s : Sl} {p : Addr}
theorem Rel.lend (R : Rel K mg B F H r σ) (hs : r[i]? = some (some s)) (m : s.mine = true) (e : σ[i]? = some (some (.ref p))) : Rel K mg (lendB B H (fp H p s.d) s) F H (r.set i none) σ := by
  obtain ⟨hA, _, ho⟩ := R.own_at hs m e
  have R0 : Rel K mg B F H (r.set i none) σ := R.lay
  have oth : ∀ (j : Nat) (t : Sl) (q : Addr), (r.set i none)[j]? = some (some t) → t.mine = true → σ[j]? = some (some (.ref q)) → ∀ a ∈ fp H q t.d, a ∉ fp H p s.d := fun j t q hj mt ej a ha z => by
    rw [get_set] at hj
    split at hj
    · split at hj <;> cases hj
    · rename_i ne
      exact R.apart i j s t p q ne hs hj m mt e ej a z ha
  cases s with
  | fz d => cases m
  | ow d =>
    have nb : ∀ a ∈ fp H p d, B.H a = none ∧ a ∉ B.bs := by
      obtain ⟨p', e', hA', _, _⟩ := R.slot i _ hs
      rw [e] at e'
      cases e'
      exact fun a ha => (hA' a ha).2
    refine ⟨R0.fh, R0.f0, fun a o hb h => ?_, fun a h1 h2 => ?_, fun a ha => ?_, R0.len, fun j t hj => ?_, R0.apart⟩
    · have h' : (if a ∈ fp H p d then H a else B.H a) = some o := h
      split at h'
      · exact h'
      · exact R0.keep a o hb h'
    · have h2' : (if a ∈ fp H p d then H a else B.H a) ≠ none := h2
      split at h2'
      · rename_i z
        exact (hA a z).1
      · exact R0.fresh a h1 h2'
    · obtain ⟨h1, h2⟩ := R0.live a ha
      refine ⟨h1, ?_⟩
      show (if a ∈ fp H p d then H a else B.H a) ≠ none
      split
      · exact h1
      · exact h2
    · have q := R0.slot j t hj
      cases t with
      | fz d1 => exact q
      | ow d1 =>
        obtain ⟨p', e', hA', nd', h'⟩ := q
        refine ⟨p', e', fun a ha => ⟨(hA' a ha).1, ?_, (hA' a ha).2.2⟩, nd', h'⟩
        exact (if_neg (oth j _ p' hj rfl e' a ha)).trans (hA' a ha).2.1
      | bo d1 =>
        obtain ⟨p', e', hd', hA', nd', h'⟩ := q
        refine ⟨p', e', hd', fun a ha => ⟨(hA' a ha).1, (hA' a ha).2.imp id fun z => ?_⟩, nd', h'⟩
        exact (if_neg (oth j _ p' hj rfl e' a ha)).trans z
  | bo d =>
    have hd : B.bs.head? = some p := by
      obtain ⟨p', e', hd', _⟩ := R.slot i _ hs
      rw [e] at e'
      cases e'
      exact hd'
    refine ⟨R0.fh, R0.f0, fun a o hb h => ?_, fun a h1 h2 => ?_, fun a ha => (by cases ha), R0.len, fun j t hj => ?_, R0.apart⟩
    · have h' : (if a ∈ fp H p d ∨ a ∈ B.bs then H a else B.H a) = some o := h
      split at h'
      · exact h'
      · rename_i z
        exact R0.keep a o (fun w => z (.inr w)) h'
    · have h2' : (if a ∈ fp H p d ∨ a ∈ B.bs then H a else B.H a) ≠ none := h2
      split at h2'
      · rename_i z
        rcases z with z | z
        · exact (hA a z).1
        · exact R0.fresh a h1 (R0.live a z).2
      · exact R0.fresh a h1 h2'
    · have q := R0.slot j t hj
      cases t with
      | fz d1 => exact q
      | ow d1 =>
        obtain ⟨p', e', hA', nd', h'⟩ := q
        refine ⟨p', e', fun a ha => ⟨(hA' a ha).1, ?_, fun z => (by cases z)⟩, nd', h'⟩
        show (if a ∈ fp H p d ∨ a ∈ B.bs then H a else B.H a) = none
        rw [if_neg fun z => z.elim (oth j _ p' hj rfl e' a ha) (hA' a ha).2.2]
        exact (hA' a ha).2.1
      | bo d1 =>
        obtain ⟨p', e', hd', hA', nd', h'⟩ := q
        rw [hd] at hd'
        cases hd'
        exact absurd (fp_head (H := H) (p := p) (d := (Sl.bo d).d)) (oth j _ p hj rfl e' p fp_head)
theorem Rel.back (R0 : Rel K mg B F H r σ) (hs : r[i]? = some (some s)) (m : s.mine = true) (e : σ[i]? = some (some (.ref p))) (R : Rel K mg (lendB B H (fp H p s.d) s) F' H' r' σ) (sF : Same F F') :
    Rel K mg B F' H' (r'.set i (some s)) σ ∧ ∀ a ∈ fp H p s.d, H' a = H a := by
  obtain ⟨hA, nd, ho⟩ := R0.own_at hs m e
  have bsA : ∀ a ∈ fp H p s.d, a ∉ (lendB B H (fp H p s.d) s).bs := fun a ha => by
    cases s with
    | fz d => cases m
    | ow d =>
      obtain ⟨p', e', hA', _, _⟩ := R0.slot i _ hs
      rw [e] at e'
      cases e'
      exact (hA' a ha).2.2
    | bo d => exact fun z => (by cases z)
  have lH : ∀ a ∈ fp H p s.d, (lendB B H (fp H p s.d) s).H a = H a := fun a ha => by
    cases s with
    | fz d => cases m
    | ow d => exact if_pos ha
    | bo d => exact if_pos (.inl ha)
  have kA : ∀ a ∈ fp H p s.d, H' a = H a := fun a ha => by
    obtain ⟨o, hoa⟩ := fp_live s.d ho a ha
    rw [hoa]
    exact R.keep a o (bsA a ha) ((lH a ha).trans hoa)
  have fA : ∀ a ∈ fp H p s.d, F' a = none := fun a ha => by
    obtain ⟨o, hoa⟩ := fp_live s.d ho a ha
    have bF : B.F a = none := by
      cases q : B.F a with
      | none => rfl
      | some u =>
        have := R0.f0 _ _ q
        rw [(hA a ha).1] at this
        cases this
    refine R.fresh a ?_ ?_
    · cases s <;> exact bF
    · rw [lH a ha, hoa]
      exact fun z => nomatch z
  have efp : fp H' p s.d = fp H p s.d := fp_eq (kA p fp_head)
  have hi : i < r.length := (List.getElem?_eq_some_iff.mp hs).1
  have hlen : r'.length = r.length := R.len.trans R0.len.symm
  -- what the lent background says of others
  have other : ∀ (j : Nat) (t : Sl), r'[j]? = some (some t) → slOk K mg (lendB B H (fp H p s.d) s) F' H' σ[j]? t → slOk K mg B F' H' σ[j]? t ∧ (t.mine = true → ∀ q, σ[j]? = some (some (.ref q)) → ∀ a ∈ fp H' q t.d, a ∉ fp H p s.d) := fun j t hj q => by
    have out : ∀ a, (lendB B H (fp H p s.d) s).H a = none → a ∉ fp H p s.d := fun a z w => by
      obtain ⟨o, hoa⟩ := fp_live s.d ho a w
      rw [lH a w, hoa] at z
      cases z
    have back : ∀ a, (lendB B H (fp H p s.d) s).H a = none → B.H a = none := fun a z => by
      have na := out a z
      cases s with
      | fz d => cases m
      | ow d =>
        exact (if_neg na).symm.trans z
      | bo d =>
        have z' : (if a ∈ fp H p d ∨ a ∈ B.bs then H a else B.H a) = none := z
        split at z'
        · rename_i w
          rcases w with w | w
          · exact absurd w na
          · exact absurd z' (R0.live a w).1
        · exact z'
    cases t with
    | fz d1 => exact ⟨q, fun z => (by cases z)⟩
    | ow d1 =>
      obtain ⟨p', e', hA', nd', h'⟩ := q
      refine ⟨⟨p', e', fun a ha => ⟨(hA' a ha).1, back a (hA' a ha).2.1, fun z => ?_⟩, nd', h'⟩, fun _ q' eq' a ha => ?_⟩
      · have w := (hA' a ha).2.1
        cases s with
        | fz d => cases m
        | ow d => exact (hA' a ha).2.2 z
        | bo d =>
          have w' : (if a ∈ fp H p d ∨ a ∈ B.bs then H a else B.H a) = none := w
          rw [if_pos (.inr z)] at w'
          exact (R0.live a z).1 w'
      · rw [e'] at eq'
        cases eq'
        exact out a (hA' a ha).2.1
    | bo d1 =>
      obtain ⟨p', e', hd', hA', nd', h'⟩ := q
      cases s with
      | fz d => cases m
      | ow d =>
        have nbs : ∀ a ∈ fp H p d, a ∉ B.bs := bsA
        refine ⟨⟨p', e', hd', fun a ha => ⟨(hA' a ha).1, (hA' a ha).2.imp id (back a)⟩, nd', h'⟩, fun _ q' eq' a ha => ?_⟩
        rw [e'] at eq'
        cases eq'
        rcases (hA' a ha).2 with z | z
        · exact fun w => nbs a w z
        · exact out a z
      | bo d => cases hd'
  refine ⟨⟨R.fh, R0.f0.trans sF, fun a o hb h => ?_, fun a h1 h2 => ?_, fun a hb => ?_, by rw [List.length_set]; exact R.len, fun j t hj => ?_, fun a b s1 t1 p1 q1 ne ha hb ms mt ea eb x hx hy => ?_⟩, kA⟩
  · have na : a ∉ fp H p s.d := fun z => by
      rcases (hA a z).2 with w | w
      · exact hb w
      · rw [w] at h
        cases h
    refine R.keep a o ?_ ?_
    · cases s with
      | fz d => cases m
      | ow d => exact hb
      | bo d => exact fun z => (by cases z)
    · cases s with
      | fz d => cases m
      | ow d => exact (if_neg na).trans h
      | bo d => exact (if_neg fun z => z.elim na hb).trans h
  · have h3 := R0.fresh a h1 h2
    by_cases na : a ∈ fp H p s.d
    · exact fA a na
    · refine R.fresh a (by cases s <;> exact h1) ?_
      cases s with
      | fz d => cases m
      | ow d =>
        exact fun z => h2 ((if_neg na).symm.trans z)
      | bo d =>
        show (if a ∈ fp H p d ∨ a ∈ B.bs then H a else B.H a) ≠ none
        split
        · rename_i w
          rcases w with w | w
          · exact absurd w na
          · exact (R0.live a w).1
        · exact h2
  · obtain ⟨h1, h2⟩ := R0.live a hb
    refine ⟨?_, h2⟩
    cases s with
    | fz d => cases m
    | ow d => exact (R.live a hb).1
    | bo d =>
      cases q : H a with
      | none => exact absurd q h1
      | some o =>
        rw [R.keep a o (fun z => (by cases z)) ((if_pos (.inr hb)).trans q)]
        exact fun z => nomatch z
  · rw [get_set] at hj
    by_cases q : i = j
    · subst q
      rw [if_pos rfl, if_pos (by rw [hlen]; exact hi)] at hj
      cases hj
      refine (R0.slot i s hs).mono sF fun _ p' e' a ha => ?_
      rw [e] at e'
      cases e'
      exact ⟨kA a ha, fun _ => fA a ha⟩
    · rw [if_neg q] at hj
      exact (other j t hj (R.slot j t hj)).1
  · rw [get_set] at ha hb
    by_cases qa : i = a
    · subst qa
      rw [if_pos rfl, if_pos (by rw [hlen]; exact hi)] at ha
      cases ha
      rw [e] at ea
      cases ea
      rw [if_neg ne] at hb
      rw [efp] at hx
      exact (other b t1 hb (R.slot b t1 hb)).2 mt q1 eb x hy hx
    · rw [if_neg qa] at ha
      by_cases qb : i = b
      · subst qb
        rw [if_pos rfl, if_pos (by rw [hlen]; exact hi)] at hb
        cases hb
        rw [e] at eb
        cases eb
        rw [efp] at hy
        exact (other a s1 ha (R.slot a s1 ha)).2 ms p1 ea x hx hy
      · rw [if_neg qb] at hb
        exact R.apart a b s1 t1 p1 q1 ne ha hb ms mt ea eb x hx hy
end
end Dl

set_option Elab.async false
set_option linter.all false
set_option maxRecDepth 100000
set_option maxHeartbeats 4000000
namespace Dl
open PySem L2
/-! ### y.n where y's object is one's own: its own part -/
def ownFld (cs : List Str) (n : Str) (r : En) (i : Nat) : Option (Sl × D) := match r[i]? with
  | some (some s) => if s.mine = true then (match s.d with
    | .ins c fs => if c ∈ cs then (match fs.lookup n with
      | some (.own d) => some (s, d)
      | _ => none) else none
    | _ => none) else none
  | _ => none
/-- the part is put anew -/
def putOwn (n : Str) (d : D) : D → D
  | .ins c fs => .ins c (putD n (.own d) fs)
  | z => z
section
variable {K : PySem.W.Frag} {mg : Str → Option Value} {B : Bg} {F F' H H' : Hp} {r r' : En} {σ : L2.St} {i : Nat} {s : Sl} {p q : Addr} {n : Str} {d d' : D} {cs : List Str}
theorem ownFld_inv (h : ownFld cs n r i = some (s, d)) : r[i]? = some (some s) ∧ s.mine = true ∧ ∃ c fs, s.d = .ins c fs ∧ c ∈ cs ∧ fs.lookup n = some (.own d) := by
  unfold ownFld at h
  split at h
  · rename_i s0 e
    split at h
    · rename_i m
      split at h
      · rename_i c fs hd
        split at h
        · rename_i hc
          split at h
          · rename_i d0 hl
            cases h
            exact ⟨e, m, c, fs, hd, hc, hl⟩
          · cases h
        · cases h
      · cases h
    · cases h
  · cases h
theorem repO_look : ∀ {fs : List (Str × D)} {ws : List (Str × V)}, repO K mg F H fs ws → fs.lookup n = some (.own d) → ∃ q, ws.lookup n = some (.ref q) ∧ ownB K mg F H q d ∧ q ∈ fpF fs ws
  | [], _, _, h => by cases h
  | (k, d0) :: fs, _, h, e => by
    obtain ⟨w, ws, rfl, h1, h2⟩ := h
    rw [List.lookup_cons] at e ⊢
    unfold fpF
    cases z : (n == k) with
    | true =>
      rw [z] at e
      cases e
      obtain ⟨q, rfl, hq⟩ := h1
      exact ⟨q, rfl, hq, by simp [fldQ]⟩
    | false =>
      rw [z] at e
      obtain ⟨q, a1, a2, a3⟩ := repO_look h2 e
      exact ⟨q, a1, a2, List.mem_append_right _ a3⟩
theorem ownB_vw : ∀ {d : D}, ownB K mg F H q d → vw K mg F H d (.ref q)
  | .lst ds, ⟨xs, h, r⟩ => ⟨q, xs, rfl, h, r⟩
  | .dk ds, ⟨xs, h, r⟩ => ⟨q, xs, rfl, .inl h, r⟩
/-- all that is known of such a part -/
theorem Rel.part (R : Rel K mg B F H r σ) (h : ownFld cs n r i = some (s, d)) : ∃ c fs p C dx ws q, r[i]? = some (some s) ∧ s.mine = true ∧ s.d = .ins c fs ∧ c ∈ cs ∧ fs.lookup n = some (.own d) ∧ σ[i]? = some (some (.ref p)) ∧ mg c = some (.ref C) ∧ H p = some (.ins C dx ws) ∧
    ws.lookup n = some (.ref q) ∧ ownB K mg F H q d ∧ repO K mg F H fs ws ∧ fp H p s.d = p :: fpF fs ws ∧ (p :: fpF fs ws).Nodup ∧ q ∈ fpF fs ws := by
  obtain ⟨hs, m, c, fs, hd, hc, hl⟩ := ownFld_inv h
  obtain ⟨p, e, hA, nd, ho⟩ := R.own hs m
  rw [hd] at ho
  obtain ⟨C, dx, ws, hC, hH, hr⟩ := ho
  obtain ⟨q, a1, a2, a3⟩ := repO_look hr hl
  have efp : fp H p s.d = p :: fpF fs ws := by
    rw [hd]
    unfold fp
    simp only [hH]
  rw [efp] at nd
  exact ⟨c, fs, p, C, dx, ws, q, hs, m, hd, hc, hl, e, hC, hH, a1, a2, hr, efp, nd, a3⟩
/-- another thing in the part's place -/
theorem fpF_own : ∀ {fs : List (Str × D)} {ws : List (Str × V)}, repO K mg F H fs ws → fs.lookup n = some (.own d) → fpF (putD n (.own d') fs) ws = fpF fs ws
  | [], _, _, h => by cases h
  | (k, d0) :: fs, _, h, e => by
    obtain ⟨w, ws, rfl, h1, h2⟩ := h
    rw [List.lookup_cons] at e
    unfold putD
    cases z : (n == k) with
    | true =>
      rw [z] at e
      cases e
      have ek : k = n := (beq_iff_eq.mp z).symm
      rw [if_pos ek]
      obtain ⟨q, rfl, hq⟩ := h1
      rfl
    | false =>
      rw [z] at e
      have ek : ¬ k = n := fun w => by rw [w] at z; simp at z
      rw [if_neg ek]
      unfold fpF
      rw [fpF_own h2 e]
theorem repO_poke {o : HO} : ∀ {fs : List (Str × D)} {ws : List (Str × V)}, repO K mg F H fs ws → (fpF fs ws).Nodup → fs.lookup n = some (.own d) → ws.lookup n = some (.ref q) → ownB K mg F (upd H q o) q d' → repO K mg F (upd H q o) (putD n (.own d') fs) ws
  | [], _, _, _, h, _, _ => by cases h
  | (k, d0) :: fs, _, h, nd, e, e2, hb => by
    obtain ⟨w, ws, rfl, h1, h2⟩ := h
    rw [List.lookup_cons] at e e2
    unfold putD
    unfold fpF at nd
    cases z : (n == k) with
    | true =>
      rw [z] at e e2
      cases e
      cases e2
      have ek : k = n := (beq_iff_eq.mp z).symm
      rw [if_pos ek]
      have nq : q ∉ fpF fs ws := by
        rw [List.nodup_append] at nd
        exact fun w => nd.2.2 q (by simp [fldQ]) q w rfl
      refine ⟨.ref q, ws, by rw [ek], ⟨q, rfl, hb⟩, repO_mono (Same.refl F) (fun a ha => upd_ne fun w => nq (by rw [← w]; exact ha)) h2⟩
    | false =>
      rw [z] at e e2
      have ek : ¬ k = n := fun w => by rw [w] at z; simp at z
      rw [if_neg ek]
      have e2' : ws.lookup n = some (.ref q) := e2
      obtain ⟨q', b1, _, b3⟩ := repO_look h2 e
      rw [e2'] at b1
      cases b1
      rw [List.nodup_append] at nd
      refine ⟨w, ws, rfl, ?_, repO_poke h2 nd.2.1 e e2 hb⟩
      cases d0 with
      | own d1 =>
        obtain ⟨q1, rfl, hq1⟩ := h1
        have ne : q1 ≠ q := fun w => nd.2.2 q1 (by simp [fldQ]) q b3 w
        refine ⟨q1, rfl, ?_⟩
        cases d1 with
        | lst ds =>
          obtain ⟨xs, h4, h5⟩ := hq1
          exact ⟨xs, (upd_ne ne).trans h4, h5⟩
        | dk ds =>
          obtain ⟨xs, h4, h5⟩ := hq1
          exact ⟨xs, (upd_ne ne).trans h4, h5⟩
        | _ => exact hq1.elim
      | _ => exact h1
/-- the part's object is written -/
theorem Rel.putP {c : Str} {fs : List (Str × D)} {C dx : Addr} {ws : List (Str × V)} {o : HO} (R : Rel K mg B F H r σ) (hs : r[i]? = some (some s)) (m : s.mine = true) (hd : s.d = .ins c fs) (hl : fs.lookup n = some (.own d)) (e : σ[i]? = some (some (.ref p))) (hC : mg c = some (.ref C)) (hH : H p = some (.ins C dx ws))
    (hw : ws.lookup n = some (.ref q)) (hr : repO K mg F H fs ws) (efp : fp H p s.d = p :: fpF fs ws) (nd : (p :: fpF fs ws).Nodup) (hq : q ∈ fpF fs ws) (hb : ownB K mg F (upd H q o) q d') : Rel K mg B F (upd H q o) (r.set i (some (s.put (putOwn n d' s.d)))) σ := by
  have nd' := List.nodup_cons.mp nd
  have np : p ≠ q := fun z => nd'.1 (by rw [z]; exact hq)
  have hH' : upd H q o p = some (.ins C dx ws) := (upd_ne np).trans hH
  have e2 : fp (upd H q o) p (putOwn n d' s.d) = p :: fpF fs ws := by
    rw [hd]
    unfold putOwn fp
    simp only [hH']
    rw [fpF_own hr hl]
  refine R.putA hs m e (by rw [efp]; exact List.mem_cons_of_mem _ hq) (fun a ha => ?_) (by rw [e2]; exact nd) ?_
  · rw [e2] at ha
    rw [efp]
    exact ha
  · rw [hd]
    exact ⟨C, dx, ws, hC, hH', repO_poke hr nd'.2 hl hw hb⟩
end
/-! ### rules -/
def eUnF (g : D → Option D) (cs : List Str) (n : Str) (i : Nat) : En → Res (D × En) := fun r => match ownFld cs n r i with
  | some q => (liftR (g q.2)).bind fun z => .ok (z, r)
  | none => .bad
/-- y.n[k] -/
def eAtF (g : D → D → Option D) (cs : List Str) (n : Str) (i : Nat) (fk : En → Res (D × En)) : En → Res (D × En) := fun r => match ownFld cs n r i with
  | some q => (noX (fk (r.set i none))).bind fun p => (liftR (g q.2 p.1)).bind fun z => .ok (z, p.2.set i (some q.1))
  | none => .bad
/-- k in y.n -/
def eInF (g : D → D → Option D) (cs : List Str) (n : Str) (i : Nat) (fk : En → Res (D × En)) : En → Res (D × En) := fun r => (fk r).bind fun p => match ownFld cs n p.2 i with
  | some q => (liftR (g p.1 q.2)).bind fun z => .ok (z, p.2)
  | none => .bad
/-- y.n[k] = v -/
def sDPutF (cs : List Str) (n : Str) (i : Nat) (fk fv : En → Res (D × En)) : En → SR := fun r => sBind (fv r) fun p => match ownFld cs n p.2 i with
  | some q => sBind (noX (fk (p.2.set i none))) fun z => (match q.2, keyD z.1 with
    | .dk kvs, some k => if kvs.length < 100000 then .nx (z.2.set i (some (q.1.put (putOwn n (.dk (putKD kvs k p.1)) q.1.d)))) else .bad
    | _, _ => .bad)
  | none => .bad
section
variable {X : Cx} {W : WX} {i : Nat} {y n x : Str} {cs : List Str} {id T : String} {rr : List V → Hp → VK → Prop} {g : D → Option D} {p pos p1 p2 pos' : Pos} {fk fv : En → Res (D × En)} {ke ve : Expr}
abbrev NoA (X : Cx) (cs : List Str) (n : Str) : Prop := ∀ c ∈ cs, ∀ C, X.mg c = some (.ref C) → Cls X.K C ∧ NoAttr X.K C n
theorem un_entF {R : RR D V} {r1 : V → Hp → VK → Prop} (hcs : NoA X cs n)
    (hr : ∀ B F H r σ v x z Q, Rel X.K X.mg B F H r σ → vw X.K X.mg F H x v → g x = some z → Po X.K X.mg W B F σ R Q (.ok (z, r)) → r1 v H Q) : Ent X.K X.mg W R (tUn r1 (tFld X.K (tVar i) n)) (eUnF g cs n i) := by
  intro B F H r σ Q R0 p
  unfold eUnF at p
  cases q : ownFld cs n r i with
  | none =>
    rw [q] at p
    exact p.elim
  | some a =>
    obtain ⟨s, d⟩ := a
    rw [q] at p
    obtain ⟨c, fs, pa, C, dx, ws, qa, hs, m, hd, hc, hl, e, hC, hH, hw, hb, hr', efp, nd, hq⟩ := R0.part q
    obtain ⟨k1, k2⟩ := hcs c hc C hC
    refine ⟨_, e, pa, C, dx, ws, .ref qa, rfl, hH, k1, k2, hw, ?_⟩
    cases z : g d with
    | none =>
      simp only [z, liftR, bind_bad] at p
      exact p.elim
    | some w =>
      simp only [z, liftR, bind_ok] at p
      exact hr B F H r σ _ d w Q R0 (ownB_vw hb) z p
abbrev VisY (X : Cx) (y : Str) : Prop := Vis X.env.scope y
theorem pe_part (hN : X.N[i]? = some y) (hv : Vis X.env.scope y) (hyd : (y == ("__debug__" : Str)) = false) (hcd : (y == ("__classdict__" : Str)) = false) (hb : attributeBase (.Name y p1) n X.env (eval (.Name y p1) X.env) = eval (.Name y p1) X.env) :
    PE X (.Attribute (.Name y p1) n p2) (tFld X.K (tVar i) n) := pe_fld (pe_var hN hv hyd hcd) hb
theorem de_b1F (hc : CallR X (.builtin id) rr) (hv : UnV X (fun v H Q => rr [v] H Q) g) (hcs : NoA X cs n) (hg : Gl X x) (hm : X.mg x = none) (hb : bootBuiltins x = some (.builtin id)) (hN : X.N[i]? = some y := by rfl)
    (hvy : Vis X.env.scope y := by first | exact Or.inl rfl | exact Or.inr (Or.inl rfl) | exact Or.inr (Or.inr rfl)) (hyd : (y == ("__debug__" : Str)) = false := by decide) (hcd : (y == ("__classdict__" : Str)) = false := by decide)
    (hab : attributeBase (.Name y p1) n X.env (eval (.Name y p1) X.env) = eval (.Name y p1) X.env := by rfl) (hst : starEach [.Attribute (.Name y p1) n p2] X.env = (false, eval (.Attribute (.Name y p1) n p2) X.env) :: starEach [] X.env := by rfl)
    (hn : x ≠ "__name__" := by decide) (hdb : (x == ("__debug__" : Str)) = false := by decide) : DE X W (.Call (.Name x p) [.Attribute (.Name y p1) n p2] [] pos) (eUnF g cs n i) :=
  ⟨_, pe_callB hc hg hm hb (pa_cons (pe_part hN hvy hyd hcd hab) pa_nil hst) hn hdb hst rfl, un_entF (r1 := fun v H Q => rr [v] H Q) hcs (unV_hr hv)⟩
theorem dn_b1F (hc : CallR X (.builtin id) rr) (hv : UnN X (fun v H Q => rr [v] H Q) g) (hcs : NoA X cs n) (hg : Gl X x) (hm : X.mg x = none) (hb : bootBuiltins x = some (.builtin id)) (hN : X.N[i]? = some y := by rfl)
    (hvy : Vis X.env.scope y := by first | exact Or.inl rfl | exact Or.inr (Or.inl rfl) | exact Or.inr (Or.inr rfl)) (hyd : (y == ("__debug__" : Str)) = false := by decide) (hcd : (y == ("__classdict__" : Str)) = false := by decide)
    (hab : attributeBase (.Name y p1) n X.env (eval (.Name y p1) X.env) = eval (.Name y p1) X.env := by rfl) (hst : starEach [.Attribute (.Name y p1) n p2] X.env = (false, eval (.Attribute (.Name y p1) n p2) X.env) :: starEach [] X.env := by rfl)
    (hn : x ≠ "__name__" := by decide) (hdb : (x == ("__debug__" : Str)) = false := by decide) : DN X W (.Call (.Name x p) [.Attribute (.Name y p1) n p2] [] pos) (eUnF g cs n i) :=
  ⟨_, pe_callB hc hg hm hb (pa_cons (pe_part hN hvy hyd hcd hab) pa_nil hst) hn hdb hst rfl, un_entF (r1 := fun v H Q => rr [v] H Q) hcs (unN_hr hv)⟩
theorem dn_t1F (hc : CallR X (.type T) rr) (hv : UnN X (fun v H Q => rr [v] H Q) g) (hcs : NoA X cs n) (hg : Gl X x) (hm : X.mg x = none) (hb : bootBuiltins x = some (.type T)) (hN : X.N[i]? = some y := by rfl)
    (hvy : Vis X.env.scope y := by first | exact Or.inl rfl | exact Or.inr (Or.inl rfl) | exact Or.inr (Or.inr rfl)) (hyd : (y == ("__debug__" : Str)) = false := by decide) (hcd : (y == ("__classdict__" : Str)) = false := by decide)
    (hab : attributeBase (.Name y p1) n X.env (eval (.Name y p1) X.env) = eval (.Name y p1) X.env := by rfl) (hst : starEach [.Attribute (.Name y p1) n p2] X.env = (false, eval (.Attribute (.Name y p1) n p2) X.env) :: starEach [] X.env := by rfl)
    (hn : x ≠ "__name__" := by decide) (hdb : (x == ("__debug__" : Str)) = false := by decide) : DN X W (.Call (.Name x p) [.Attribute (.Name y p1) n p2] [] pos) (eUnF g cs n i) :=
  ⟨_, pe_callTy hc hg hm hb (pa_cons (pe_part hN hvy hyd hcd hab) pa_nil hst) hn hdb hst rfl, un_entF (r1 := fun v H Q => rr [v] H Q) hcs (unN_hr hv)⟩
end
end Dl

set_option Elab.async false
set_option linter.all false
set_option maxRecDepth 100000
set_option maxHeartbeats 4000000
namespace Dl
open PySem L2
/-! ### a loose object is held while another thing is evaluated -/
section
variable {K : PySem.W.Frag} {mg : Str → Option Value} {W : WX} {B : Bg} {F F' H H' : Hp} {r r' : En} {σ : L2.St} {p : Addr} {o : HO}
theorem ownS_mono (e : Same F F') (h : H' p = H p) : ∀ {d : D}, ownS K mg F H p d → ownS K mg F' H' p d
  | .lst ds, ⟨xs, h1, r⟩ => ⟨xs, h.trans h1, repL_mono e _ _ r⟩
  | .dk ds, ⟨xs, h1, r⟩ => ⟨xs, h.trans h1, repK_mono e _ _ r⟩
  | .dt ds, ⟨xs, h1, r⟩ => ⟨xs, h.trans h1, repT_mono e _ _ r⟩
  | .ins c fs, ⟨C, dx, ws, m, h1, r⟩ => ⟨C, dx, ws, m, h.trans h1, repF_mono e _ _ r⟩
theorem ownS_there : ∀ {d : D}, ownS K mg F H p d → ∃ o, H p = some o
  | .lst ds, ⟨xs, h, r⟩ => ⟨_, h⟩
  | .dk ds, ⟨xs, h, r⟩ => ⟨_, h⟩
  | .dt ds, ⟨xs, h, r⟩ => ⟨_, h⟩
  | .ins c fs, ⟨C, dx, ws, m, h, r⟩ => ⟨_, h⟩
theorem Rel.freeB (R : Rel K mg B F H r σ) (h : F p = none) : B.F p = none := by
  cases q : B.F p with
  | none => rfl
  | some u =>
    have := R.f0 _ _ q
    rw [h] at this
    cases this
/-- evaluate f, p held -/
theorem Ent.held {t : TE} {f : En → Res (D × En)} {Q1 : V → Hp → Prop} (h : Ent K mg W (rE K mg) t f) (R : Rel K mg B F H r σ) (ho : H p = some o) (hF : F p = none) (hB : B.H p = none) (hb : p ∉ B.bs) (hl : Loose H r σ p) {d : D} (e : f r = .ok (d, r'))
    (c : ∀ v F' H', Rel K mg B F' H' r' σ → Same F F' → H' p = some o → F' p = none → Loose H' r' σ p → rep K mg F' d v → Q1 v H') : t σ H Q1 := by
  have Rg := R.guard ho hF hB hb hl
  refine h _ F H r σ Q1 Rg ?_
  rw [e]
  intro v F1 H1 R1 s1 x1
  obtain ⟨R2, h2, f2, l2⟩ := R1.unguard hB hb (R.freeB hF)
  exact c v F1 H1 R2 s1 h2 f2 l2 x1
end
/-! ### {k: v} -/
def eDisp1 (fk fv : En → Res (D × En)) : En → Res (D × En) := fun r => (noX (fk r)).bind fun a => (noX (fv a.2)).bind fun b => match keyD a.1 with
  | some k => .ok (.dk [(k, b.1)], b.2)
  | none => .bad
section
variable {X : Cx} {W : WX} {kx vx a b : Expr} {fk fv fa fb : En → Res (D × En)} {pos : Pos}
theorem dn_disp1 (hk : DE X W kx fk) (hv : DE X W vx fv) : DN X W (.Dict [some kx] [vx] pos) (eDisp1 fk fv) := by
  obtain ⟨tk, pk, ek⟩ := hk.ex
  obtain ⟨tv, pv, ev⟩ := hv.ex
  refine ⟨_, pe_disp (pps_cons pk pv pps_nil) rfl rfl (by simp) (by simp), fun B F H r σ Q R p pa hpa => ?_⟩
  unfold eDisp1 at p
  rcases noX_cases (fk r) with ⟨⟨dk, r1⟩, q1, q2⟩ | q2
  · rw [q2] at p
    rcases noX_cases (fv r1) with ⟨⟨dv, r2⟩, q3, q4⟩ | q4
    · simp only [bind_ok, q4] at p
      cases hkd : keyD dk with
      | none =>
        simp only [hkd] at p
        exact p.elim
      | some key =>
        simp only [hkd] at p
        have nn := R.new_ne hpa
        refine ek.held (R.newO (o := .dK []) hpa) upd_same (R.fh.free hpa) nn.1 nn.2 (R.loose_new hpa) q1 fun v1 F1 H1 R1 s1 h1 f1 l1 x1 => ?_
        refine ev.held R1 h1 f1 nn.1 nn.2 l1 q3 fun v2 F2 H2 R2 s2 h2 f2 l2 x2 => ?_
        have ev1 : v1 = kV key := keyD_rep hkd (vw_of R1.fh _ _ x1)
        subst ev1
        refine ⟨h2, [(key, v2)], rfl, by simp, p _ F2 _ (R2.poke f2 nn.1 nn.2 l2) (s1.trans s2) ⟨pa, rfl, f2, nn.1, nn.2, l2.poke, [(key, v2)], upd_same, ⟨v2, [], rfl, x2, rfl⟩⟩⟩
    · simp only [bind_ok, q4, bind_bad] at p
      exact p.elim
  · rw [q2] at p
    exact p.elim
/-! ### x, y = (new, b) -/
def sParO (i j : Nat) (fa fb : En → Res (D × En)) : En → SR := fun r => sBind (fa r) fun p => sBind (noX (fb p.2)) fun q => .nx ((q.2.set i (some (.ow p.1))).set j (some (.fz q.1)))
theorem ds_parO {i j : Nat} {x y : Str} {px py pt pos : Pos} {kt k2 pt2} (hc : X.calm = true) (hN : X.N.Nodup) (ha : DN X W a fa) (hb : DE X W b fb) (hij : i ≠ j := by decide) (hi : X.N[i]? = some x := by rfl) (hj : X.N[j]? = some y := by rfl)
    (hx : X.env.scope.names.lookup x = some .local := by rfl) (hy : X.env.scope.names.lookup y = some .local := by rfl)
    (s1 : starEach [a, b] X.env = (false, eval a X.env) :: starEach [b] X.env := by rfl) (s2 : starEach [b] X.env = (false, eval b X.env) :: starEach [] X.env := by rfl)
    (hw : swappedStores [.Tuple [.Name x px, .Name y py] kt pt] (.Tuple [a, b] k2 pt2) X.env = pure (some [x, y]) := by rfl)
    (hs : swapsWithSole [.Tuple [.Name x px, .Name y py] kt pt] (.Tuple [a, b] k2 pt2) pos.line X.env = pure false := by rfl) :
    DS X W (.Assign [.Tuple [.Name x px, .Name y py] kt pt] (.Tuple [a, b] k2 pt2) pos) (sParO i j fa fb) := by
  obtain ⟨ta, pa, ea⟩ := ha.ex
  obtain ⟨tb, pb, eb⟩ := hb.ex
  refine ⟨_, ps_par hc hN hi hj hij hx hy (pa_cons pa (pa_cons pb pa_nil s2) s1) hw hs, fun B F H r σ Z R p => ea.toS R p fun d r1 v F1 H1 R1 s1 x1 q => ?_⟩
  obtain ⟨q1, rfl, h1, h2, h3, h4, h5⟩ := x1
  obtain ⟨o, ho⟩ := ownS_there h5
  rcases noX_cases (fb r1) with ⟨⟨d2, r2⟩, z1, z2⟩ | z2
  · rw [z2] at q
    refine eb.held R1 ho h1 h2 h3 h4 z1 fun v2 F2 H2 R2 s2 g1 g2 g3 x2 => ?_
    exact ⟨_, v2, rfl, q _ F2 H2 ((R2.setS g2 h2 h3 g3 (ownS_mono s2 (g1.trans ho.symm) h5)).setF x2) s2⟩
  · rw [z2] at q
    exact q.elim
end
end Dl

set_option Elab.async false
set_option linter.all false
set_option maxRecDepth 100000
set_option maxHeartbeats 4000000
namespace Dl
open PySem L2
theorem nX_ok {α : Type} (a : α) : noX (.ok a) = .ok a := rfl
/-- a comprehension that changes nothing but its own names -/
theorem lc_map {g : D → En → Res En} {t : En → Res (Bool × En)} {e : En → Res (D × En)} {vs : List Nat} {r : En} {p : D → Bool} {z : D → D} : ∀ {ds acc : List D},
    (∀ d ∈ ds, ∃ r1 r2 r3, g d r = .ok r1 ∧ t r1 = .ok (p d, r2) ∧ (p d = true → e r2 = .ok (z d, r3) ∧ wipeE r3 vs = r) ∧ (p d = false → wipeE r2 vs = r)) →
    lcLoop g t e vs ds r acc = .ok (acc ++ (ds.filter p).map z, r)
  | [], acc, _ => by simp [lcLoop]
  | d :: ds, acc, h => by
    obtain ⟨r1, r2, r3, h1, h2, h3, h4⟩ := h d (by simp)
    have ih := fun acc => lc_map (acc := acc) (fun x hx => h x (List.mem_cons_of_mem _ hx))
    unfold lcLoop
    rw [h1, nX_ok, bind_ok, h2, nX_ok, bind_ok]
    cases q : p d with
    | true =>
      obtain ⟨h5, h6⟩ := h3 q
      simp only
      rw [h5, nX_ok, bind_ok]
      simp only [h6]
      rw [ih]
      simp [List.filter_cons, q]
    | false =>
      simp only [h4 q]
      rw [ih]
      simp [List.filter_cons, q]
theorem elc_map {s : En → Res (List D × En)} {g : D → En → Res En} {t : En → Res (Bool × En)} {e : En → Res (D × En)} {vs : List Nat} {r r0 : En} {p : D → Bool} {z : D → D} {ds : List D} (hs : s r = .ok (ds, r0)) (hl : ds.length ≤ 100000)
    (h : ∀ d ∈ ds, ∃ r1 r2 r3, g d (wipeE r0 vs) = .ok r1 ∧ t r1 = .ok (p d, r2) ∧ (p d = true → e r2 = .ok (z d, r3) ∧ wipeE r3 vs = wipeE r0 vs) ∧ (p d = false → wipeE r2 vs = wipeE r0 vs)) :
    eLc s g t e vs r = .ok (.lst ((ds.filter p).map z), restore r0 vs (wipeE r0 vs)) := by
  unfold eLc
  rw [hs, bind_ok]
  simp only [if_pos hl]
  rw [lc_map h, nX_ok, bind_ok]
  rfl
/-- by an invariant -/
theorem for_ind {g : D → En → Res En} {b : En → SR} {I : List D → En → Prop} : ∀ {ds : List D} {r : En}, I ds r → (∀ d ds r, I (d :: ds) r → ∃ r1 r2, g d r = .ok r1 ∧ (b r1 = .nx r2 ∨ b r1 = .ct r2) ∧ I ds r2) → ∃ r', forD g b ds r = .nx r' ∧ I [] r'
  | [], r, h, _ => ⟨r, rfl, h⟩
  | d :: ds, r, h, k => by
    obtain ⟨r1, r2, h1, h2, h3⟩ := k d ds r h
    obtain ⟨r', e, i⟩ := for_ind h3 k
    refine ⟨r', ?_, i⟩
    unfold forD
    rw [h1]
    rcases h2 with h2 | h2
    · simp only [sBind, h2]
      exact e
    · simp only [sBind, h2]
      exact e
/-- sorted and of the same things: the same -/
theorem perm_eq {α : Type} {le : α → α → Bool} : ∀ {l m : List α}, l.Perm m → (∀ a ∈ l, ∀ b ∈ l, le a b = true → le b a = true → a = b) → l.Pairwise (fun a b => le a b = true) → m.Pairwise (fun a b => le a b = true) → l = m
  | [], m, h, _, _, _ => (List.nil_perm.mp h).symm ▸ rfl
  | a :: l, m, h, an, h1, h2 => by
    cases m with
    | nil => exact absurd h.symm (by simp)
    | cons b m =>
      have ha : a ∈ b :: m := h.mem_iff.mp (by simp)
      have hb : b ∈ a :: l := h.mem_iff.mpr (by simp)
      have e : a = b := by
        rcases List.mem_cons.mp ha with e | ha'
        · exact e
        · rcases List.mem_cons.mp hb with e | hb'
          · exact e.symm
          · exact an a (by simp) b hb ((List.pairwise_cons.mp h1).1 b hb') ((List.pairwise_cons.mp h2).1 a ha')
      subst e
      rw [perm_eq (List.Perm.cons_inv h) (fun x hx y hy => an x (List.mem_cons_of_mem _ hx) y (List.mem_cons_of_mem _ hy)) (List.pairwise_cons.mp h1).2 (List.pairwise_cons.mp h2).2]
abbrev leD : D → D → Bool := PySem.W.dataLe false toPy
theorem leD_total (a b : D) : (leD a b || leD b a) = true := by
  have := (PySem.W.sortLe_total (PyProof.Rows.listOrd PyProof.Rows.itemOrd) false fun b => PySem.W.keyToks (toPy b)).total a b
  exact Bool.or_eq_true_iff.mpr this
theorem leD_trans (a b c : D) (h : leD a b = true) (k : leD b c = true) : leD a c = true :=
  (PySem.W.sortLe_total (PyProof.Rows.listOrd PyProof.Rows.itemOrd) false fun b => PySem.W.keyToks (toPy b)).trans a b c h k
theorem leD_anti {a b : D} (h : leD a b = true) (k : leD b a = true) : PySem.W.keyToks (toPy a) = PySem.W.keyToks (toPy b) := by
  have h1 : (PyProof.Rows.listOrd PyProof.Rows.itemOrd).blt (PySem.W.keyToks (toPy b)) (PySem.W.keyToks (toPy a)) = false := by
    have z : (!(PyProof.Rows.listOrd PyProof.Rows.itemOrd).blt (PySem.W.keyToks (toPy b)) (PySem.W.keyToks (toPy a))) = true := h
    simpa using z
  have h2 : (PyProof.Rows.listOrd PyProof.Rows.itemOrd).blt (PySem.W.keyToks (toPy a)) (PySem.W.keyToks (toPy b)) = false := by
    have z : (!(PyProof.Rows.listOrd PyProof.Rows.itemOrd).blt (PySem.W.keyToks (toPy a)) (PySem.W.keyToks (toPy b))) = true := k
    simpa using z
  exact (PyProof.Rows.listOrd PyProof.Rows.itemOrd).total _ _ h2 h1
theorem sort_eq {l m : List D} (h : l.Perm m) (an : ∀ a ∈ l, ∀ b ∈ l, PySem.W.keyToks (toPy a) = PySem.W.keyToks (toPy b) → a = b) : l.mergeSort leD = m.mergeSort leD := by
  have p1 := List.mergeSort_perm l leD
  have p2 := List.mergeSort_perm m leD
  refine perm_eq (le := leD) (p1.trans (h.trans p2.symm)) (fun a ha b hb h1 h2 => an a (p1.mem_iff.mp ha) b (p1.mem_iff.mp hb) (leD_anti h1 h2)) ?_ ?_
  · exact List.pairwise_mergeSort leD_trans leD_total l
  · exact List.pairwise_mergeSort leD_trans leD_total m
end Dl

set_option Elab.async false
set_option linter.all false
set_option maxRecDepth 100000
set_option maxHeartbeats 4000000
namespace Dl
open PySem L2 PyProof.Rows PySem.Spec
/-! ### list(d), sorted(d) -/
def listK : D → Option D
  | .dk kvs => some (.lst (keysOfD kvs))
  | _ => none
def strK : List (Key × D) → Option (List Str)
  | [] => some []
  | (.inr x, _) :: r => (strK r).map fun l => x :: l
  | _ => none
def sortedK : D → Option D
  | .dk kvs => (match strK kvs with
    | some ks => if ks.length < 64 then some (.lst ((ks.map D.str).mergeSort leD)) else none
    | none => none)
  | _ => none
theorem leD_str (a b : Str) : leD (.str a) (.str b) = !ltCps b.cps.toList a.cps.toList := by
  show (!PyProof.Rows.lexLt PyProof.Rows.itemOrd [.inr b.cps.toList] [.inr a.cps.toList]) = _
  congr 1
  rw [ltCps_eq]
  simp [PyProof.Rows.lexLt, PyProof.Rows.itemLt]
theorem rising_le : ∀ (p : Str) (l : List Str), risingS p l = true → (D.str p :: l.map D.str).Pairwise fun a b => leD a b = true
  | p, [], _ => by simp
  | p, x :: r, h => by
    have h' : (!ltCps x.cps.toList p.cps.toList && risingS x r) = true := h
    rw [Bool.and_eq_true] at h'
    have ih := rising_le x r h'.2
    rw [List.map_cons, List.pairwise_cons]
    refine ⟨fun y hy => ?_, ih⟩
    have e1 : leD (.str p) (.str x) = true := by rw [leD_str]; exact h'.1
    rcases List.mem_cons.mp hy with z | z
    · rw [z]; exact e1
    · exact leD_trans _ _ _ e1 ((List.pairwise_cons.mp ih).1 y z)
theorem sortedS_eq {ys ks : List Str} (h : ys.Perm ks) (s : sortedS ys = true) : ys.map D.str = (ks.map D.str).mergeSort leD := by
  have p2 := List.mergeSort_perm (ks.map D.str) leD
  refine perm_eq (le := leD) ((h.map D.str).trans p2.symm) (fun a ha b hb h1 h2 => ?_) ?_ (List.pairwise_mergeSort leD_trans leD_total _)
  · obtain ⟨x, _, rfl⟩ := List.mem_map.mp ha
    obtain ⟨y, _, rfl⟩ := List.mem_map.mp hb
    have e := leD_anti h1 h2
    have e2 : x.cps.toList = y.cps.toList := by simpa [toPy, PySem.W.keyToks] using e
    have e3 : x.cps = y.cps := Array.toList_inj.mp e2
    cases x
    cases y
    simp only at e3
    rw [e3]
  · cases ys with
    | nil => simp
    | cons x r => exact rising_le x r s
section
variable {X : Cx} {W : WX} {a : Expr} {pos p : Pos} {fa : En → Res (BV × En)}
theorem repL_keys {K : PySem.W.Frag} {mg : Str → Option Value} {F : Hp} : ∀ {kvs : List (Key × D)} {ws : List (Key × V)}, repK K mg F kvs ws → repL K mg F (keysOfD kvs) (ws.map fun kv => kV kv.1)
  | [], _, h => by
    cases h
    rfl
  | (k, d) :: kvs, _, ⟨w, ws, rfl, h1, h2⟩ => ⟨kV k, _, rfl, by cases k <;> rfl, repL_keys h2⟩
theorem repL_strs {K : PySem.W.Frag} {mg : Str → Option Value} {F : Hp} : ∀ (ys : List Str), repL K mg F (ys.map D.str) (ys.map V.str)
  | [] => rfl
  | y :: ys => ⟨_, _, rfl, rfl, repL_strs ys⟩
theorem strK_keys {K : PySem.W.Frag} {mg : Str → Option Value} {F : Hp} : ∀ {kvs : List (Key × D)} {ws : List (Key × V)} {ks : List Str}, repK K mg F kvs ws → strK kvs = some ks → ws.map (·.1) = ks.map Sum.inr
  | [], _, _, h, e => by
    cases h
    cases e
    rfl
  | (k, d) :: kvs, _, ks, ⟨w, ws, rfl, h1, h2⟩, e => by
    cases k with
    | inl i => cases e
    | inr x =>
      unfold strK at e
      cases q : strK kvs with
      | none =>
        rw [q] at e
        cases e
      | some l =>
        rw [q] at e
        cases e
        rw [List.map_cons, List.map_cons, strK_keys h2 q]
theorem un_listK : UnN X (fun v H Q => ∃ (a : Addr) (kvs : List (Key × V)), [v] = [.ref a] ∧ Rd H a (.dK kvs) ∧ ∀ p, H p = none → Q (.ref p) (upd H p (.lst (kvs.map fun kv => kV kv.1)))) listK := by
  intro F H v d z Q s h1 h3 k
  cases d with
  | dk kvs =>
    cases h3
    obtain ⟨a, ws, rfl, ha, rw'⟩ := h1
    exact ⟨a, ws, rfl, ha, fun p hp => k p _ hp ⟨_, upd_same, repL_keys rw'⟩⟩
  | _ => cases h3
theorem un_sortedK : UnN X (fun v H Q => ∃ (a : Addr) (kvs : List (Key × V)) (ks : List Str), [v] = [.ref a] ∧ Rd H a (.dK kvs) ∧ kvs.map (·.1) = ks.map Sum.inr ∧ ks.length < 64 ∧
    ∀ ys p, ys.Perm ks → sortedS ys = true → H p = none → Q (.ref p) (upd H p (.lst (ys.map V.str)))) sortedK := by
  intro F H v d z Q s h1 h3 k
  cases d with
  | dk kvs =>
    unfold sortedK at h3
    cases q : strK kvs with
    | none => simp [q] at h3
    | some ks =>
      simp only [q] at h3
      split at h3
      · rename_i hl
        cases h3
        obtain ⟨a, ws, rfl, ha, rw'⟩ := h1
        refine ⟨a, ws, ks, rfl, ha, strK_keys rw' q, hl, fun ys p pe so hp => k p _ hp ⟨_, upd_same, ?_⟩⟩
        rw [← sortedS_eq pe so]
        exact repL_strs ys
      · cases h3
  | _ => cases h3
theorem dn_listA (hc : X.calm = true) (hm : X.mg "list" = none) (ha : DB X W a fa) (hg : Gl X "list" := by rfl) (hst : starEach [a] X.env = (false, eval a X.env) :: starEach [] X.env := by rfl) : DN X W (.Call (.Name "list" p) [a] [] pos) (eUn (orU listD listK) fa) :=
  (dn_list1 hm ha hg hst).or1 (dn_t1 (call_listD hc) un_listK hg hm PyProof.Rows.boot_list ha hst (by decide) (by decide))
theorem dn_sortedA (hc : X.calm = true) (hr : Room k X.A) (hm : X.mg "sorted" = none) (ha : DB X W a fa) (hg : Gl X "sorted" := by rfl) (hst : starEach [a] X.env = (false, eval a X.env) :: starEach [] X.env := by rfl) : DN X W (.Call (.Name "sorted" p) [a] [] pos) (eUn (orU sortedD sortedK) fa) :=
  (dn_sorted hr hm ha hg hst).or1 (dn_b1 (call_sortedD hc) un_sortedK hg hm PyProof.Rows.boot_sorted ha hst (by decide) (by decide))
end
end Dl

set_option Elab.async false
set_option linter.all false
set_option maxRecDepth 100000
set_option maxHeartbeats 4000000
namespace Dl
open PySem L2
/-! ### y.count(x) of data -/
mutual
theorem plain_toPy : ∀ d : D, (toPy d).plain = true
  | .lst ds => by rw [toPy, PyData.plain]; exact plain_toPyL ds
  | .tup ds => by rw [toPy, PyData.plain]; exact plain_toPyL ds
  | .bl _ => rfl
  | .int _ => rfl
  | .str _ => rfl
  | .non => rfl
  | .scr _ => rfl
  | .dk _ => rfl
  | .dt _ => rfl
  | .ins _ _ => rfl
  | .ty _ => rfl
  | .gl _ => rfl
  | .own _ => rfl
theorem plain_toPyL : ∀ ds : List D, PyData.plainAll (toPyL ds) = true
  | [] => rfl
  | d :: ds => by rw [toPyL, PyData.plainAll, plain_toPy d, plain_toPyL ds]; rfl
end
def cntD : D → D → Option D
  | .lst ds, x => if isDataL ds = true ∧ isData x = true ∧ (toPy x).depth ≤ 20 then some (.int ((toPyL ds).countP fun y => PyData.eqv y (toPy x) : Nat)) else none
  | _, _ => none
def eCnt (fa fb : En → Res (D × En)) : En → Res (D × En) := fun r => (fa r).bind fun p => (noX (fb p.2)).bind fun q => (liftR (cntD p.1 q.1)).bind fun z => .ok (z, q.2)
def rCntD (K : PySem.W.Frag) : V → List V → Hp → VK → Prop := fun x xs H Q => ∃ (p : Addr) (ys : List V) (w : V) (ds : List PyData) (d : PyData), x = .ref p ∧ xs = [w] ∧ SqL K H p ys ∧ DpAll K H ys ds ∧ Dp K H w d ∧ PyData.plainAll ds = true ∧ d.plain = true ∧ d.depth ≤ 20 ∧
  Q (.int (ds.countP fun y => PyData.eqv y d : Nat)) H
section
variable {X : Cx} {W : WX} {k : Nat}
theorem mt_cntD (hr : Room k X.A) : MtR X "list.count" (rCntD X.K) := by
  intro pins s σ H x xs v us Q I rx rxs h
  obtain ⟨p, ys, w, ds, d, rfl, rfl, hs, dps, dp, pl, pd, dep, q⟩ := h
  cases rx
  obtain ⟨u, rfl, ru⟩ := rxs.one
  obtain ⟨its, rv, hl, hz⟩ := I.list hs
  obtain ⟨as, rs⟩ := Dp.readsAll I ds ys its dps rv
  obtain ⟨bs, rd⟩ := Dp.reads I d w u dp ru
  refine SeqAt.count_list_data (vs := its.toArray) hl.isList (by simpa using rs) rd pl pd ?_ ⟨.int _, H, I.tok _, ⟨s.toks, rfl⟩, q⟩
  have := hr.un
  have : min (PyData.depthAll ds) d.depth ≤ d.depth := Nat.min_le_right _ _
  omega
variable {o e : Expr} {apos pos : Pos} {fa fb : En → Res (D × En)}
theorem de_count (hr : Room k X.A) (ha : DE X W o fa) (hb : DE X W e fb) (hbase : attributeBase o "count" X.env (eval o X.env) = eval o X.env := by rfl)
    (hfew : ((backTo pos (starEach [e] X.env)).all (fun x => !x.1) && (backToKw pos (keywordEach [] X.env)).all (fun x => x.1.isSome)
      && decide (([e] : List Expr).length + ([] : List Keyword).length + (if ([] : List Keyword).isEmpty then 0 else 1) < 30)) = true := by rfl)
    (hline : (apos.endLine == pos.line) = true := by rfl) (hst : starEach [e] X.env = (false, eval e X.env) :: starEach [] X.env := by rfl) :
    DE X W (.Call (.Attribute o "count" apos) [e] [] pos) (eCnt fa fb) := by
  obtain ⟨ta, pa, ea⟩ := ha.ex
  obtain ⟨tb, pb, eb⟩ := hb.ex
  refine ⟨_, pe_bm PySem.F.plainAttrs_list PySem.F.slot_list_count PySem.F.type_list_count (mt_cntD hr) pa (pa_cons pb pa_nil hst) hbase hfew hline hst rfl, fun B F H r σ Q R p => ?_⟩
  unfold eCnt at p
  refine ea.to R p fun d r1 v F1 H1 R1 s1 x1 p1 => ?_
  rcases noX_cases (fb r1) with ⟨⟨d2, r2⟩, z1, z2⟩ | z2
  · simp only [z2, bind_ok] at p1
    cases hz : cntD d d2 with
    | none =>
      simp only [hz, liftR, bind_bad] at p1
      exact p1.elim
    | some z =>
      simp only [hz, liftR, bind_ok] at p1
      cases d with
      | lst ds =>
        simp only [cntD] at hz
        split at hz
        · rename_i c
          cases hz
          obtain ⟨a, xs, rfl, hF, rx⟩ := id x1
          refine ⟨.inl ⟨rfl, _, SqL.of (R1.fh _ _ hF)⟩, eb B F1 H1 r1 σ _ R1 ?_⟩
          rw [z1]
          intro w F2 H2 R2 s2 x2
          refine ⟨a, xs, w, _, _, rfl, rfl, SqL.of (R2.fh _ _ (s2 _ _ hF)), rep_dpL (s2.trans R2.fh) ds xs c.1 rx, rep_dp R2.fh d2 w c.2.1 x2, plain_toPyL ds, plain_toPy d2, c.2.2, p1 _ F2 H2 R2 s2 rfl⟩
        · cases hz
      | _ => cases hz
  · rw [z2] at p1
    exact p1.elim
end
/-! ### y.pop(k), y a dict in a slot -/
def dropKD (kvs : List (Key × D)) (k : Key) : List (Key × D) := kvs.filter fun kv => decide (kv.1 ≠ k)
def isDkAt (r : En) (i : Nat) : Bool := match r[i]? with
  | some (some s) => s.mine && (match s.d with
    | .dk _ => true
    | _ => false)
  | _ => false
theorem isDkAt_ok {r : En} {i : Nat} (h : isDkAt r i = true) : ∃ s ds, r[i]? = some (some s) ∧ s.mine = true ∧ s.d = .dk ds := by
  unfold isDkAt at h
  split at h
  · rename_i s e
    rw [Bool.and_eq_true] at h
    obtain ⟨m, h2⟩ := h
    split at h2
    · rename_i ds d
      exact ⟨s, ds, e, m, d⟩
    · cases h2
  · cases h
def eDPop (i : Nat) (fk : En → Res (D × En)) : En → Res (D × En) := fun r => if isDkAt r i = true then (fk r).bind fun p => atMine p.2 i fun s => match s.d with
  | .dk kvs => (match keyD p.1 with
    | some k => (match getKD kvs k with
      | some z => .ok (z, p.2.set i (some (s.put (.dk (dropKD kvs k)))))
      | none => .bad)
    | none => .bad)
  | _ => .bad else .bad
theorem repK_drop {K : PySem.W.Frag} {mg : Str → Option Value} {F : Hp} {k : Key} : ∀ {kvs : List (Key × D)} {ws : List (Key × V)}, repK K mg F kvs ws → repK K mg F (dropKD kvs k) (dropK ws k)
  | [], _, h => by
    cases h
    rfl
  | (k', d) :: kvs, _, ⟨w, ws, rfl, h1, h2⟩ => by
    have ih := repK_drop (k := k) h2
    by_cases e : k' = k
    · have e1 : dropKD ((k', d) :: kvs) k = dropKD kvs k := by simp [dropKD, List.filter_cons, e]
      have e2 : dropK ((k', w) :: ws) k = dropK ws k := by simp [dropK, List.filter_cons, e]
      rw [e1, e2]
      exact ih
    · have e1 : dropKD ((k', d) :: kvs) k = (k', d) :: dropKD kvs k := by simp [dropKD, List.filter_cons, e]
      have e2 : dropK ((k', w) :: ws) k = (k', w) :: dropK ws k := by simp [dropK, List.filter_cons, e]
      rw [e1, e2]
      exact ⟨w, _, rfl, h1, ih⟩
section
variable {X : Cx} {W : WX} {k i : Nat} {y : Str} {q apos pos : Pos} {e : Expr} {fk : En → Res (D × En)}
theorem de_dpop (hk : DE X W e fk) (hN : X.N[i]? = some y := by rfl) (hv : Vis X.env.scope y := by first | exact Or.inl rfl | exact Or.inr (Or.inl rfl) | exact Or.inr (Or.inr rfl))
    (hyd : (y == ("__debug__" : Str)) = false := by decide) (hcd : (y == ("__classdict__" : Str)) = false := by decide)
    (m : M1 X (.Name y q) "pop" apos e pos := by exact ⟨rfl, rfl, rfl, rfl⟩) :
    DE X W (.Call (.Attribute (.Name y q) "pop" apos) [e] [] pos) (eDPop i fk) := by
  obtain ⟨tk, pk, ek⟩ := hk.ex
  refine ⟨_, pe_dpop1 (pe_var hN hv hyd hcd) pk m, fun B F H r σ Q R p => ?_⟩
  unfold eDPop at p
  by_cases h0 : isDkAt r i = true
  · rw [if_pos h0] at p
    obtain ⟨s0, ds0, hs0, m0, hd0⟩ := isDkAt_ok h0
    obtain ⟨pa, e0, ho, _⟩ := R.mine_at hs0 m0
    rw [hd0] at ho
    obtain ⟨xs0, hH0, _⟩ := ho
    refine ⟨_, e0, pa, rfl, .inl ⟨xs0, .inl hH0⟩, ek.to R p fun kd r1 w F1 H1 R1 s1 x1 p1 => ?_⟩
    rcases atMine_cases r1 i (fun s => match s.d with
      | .dk kvs => (match keyD kd with
        | some k => (match getKD kvs k with
          | some z => .ok (z, r1.set i (some (s.put (.dk (dropKD kvs k)))))
          | none => .bad)
        | none => .bad)
      | _ => (.bad : Res (D × En))) with z | ⟨s, hs, m, z⟩
    · simp only [z] at p1
      exact p1.elim
    · simp only [z] at p1
      obtain ⟨pa', e1, ho, hF⟩ := R1.mine_at hs m
      rw [e0] at e1
      cases e1
      cases hd : s.d with
      | dk kvs =>
        rw [hd] at p1 ho
        simp only at p1
        obtain ⟨ws, hH, rx⟩ := ho
        cases hkd : keyD kd with
        | none =>
          rw [hkd] at p1
          exact p1.elim
        | some key =>
          simp only [hkd] at p1
          have ew : w = kV key := keyD_rep hkd (vw_of R1.fh _ _ x1)
          rcases repK_get (k := key) rx with ⟨g1, g2⟩ | ⟨d, v, g1, g2, g3⟩
          · simp only [g1] at p1
            exact p1.elim
          · simp only [g1] at p1
            exact ⟨ws, key, v, hH, ew, g2, p1 v F1 _ (R1.put hs m e0 ⟨_, upd_same, repK_drop rx⟩) (Same.refl F1) g3⟩
      | _ =>
        rw [hd] at p1
        exact p1.elim
  · rw [if_neg h0] at p
    exact p.elim
end
/-! ### repr of a dict of data -/
def pkD : Key → PyData
  | .inl i => .int i
  | .inr x => .str x
def toPyK (kvs : List (Key × D)) : PyData := .dict (kvs.map fun kv => (pkD kv.1, toPy kv.2))
def reprK : D → Option D
  | .dk kvs => if isDataL (kvs.map (·.2)) = true ∧ (toPyK kvs).showable = true ∧ (toPyK kvs).depth ≤ 20 ∧ (toPyK kvs).shown.length ≤ 100000 then some (.str (toPyK kvs).shown) else none
  | _ => none
theorem pairs_keys {P : Program} {w : World} {h : Heap} : ∀ {es : List DictEntry} {kvs : List (Key × Value)}, Pairs (mixKind P w) es kvs → ReadsAll h (es.map (·.key)) (kvs.map fun kv => pkD kv.1) []
  | _, _, .nil => .nil
  | _, _, .cons (e := e) (kv := kv) h1 h2 h3 => by
    rw [List.map_cons, List.map_cons]
    obtain ⟨k, v⟩ := kv
    have q1 : Reads h e.key (pkD k) [] := by
      rcases keyIs_shape h1 with ⟨i, t, e1, e2⟩ | ⟨x, t, e1, e2⟩
      · simp only at e1
        rw [e2, e1]
        exact .int i t
      · simp only at e1
        rw [e2, e1]
        exact .str x t
    exact ReadsAll.cons (as := []) (bs := []) q1 (pairs_keys h3)
theorem pairs_vals {P : Program} {w : World} : ∀ {es : List DictEntry} {kvs : List (Key × Value)}, Pairs (mixKind P w) es kvs → es.map (·.val) = kvs.map (·.2)
  | _, _, .nil => rfl
  | _, _, .cons h1 h2 h3 => by rw [List.map_cons, List.map_cons, h2, pairs_vals h3]
theorem KV.vals : ∀ {kvs : List (Key × V)} {vs : List (Key × Value)}, KV kvs vs → Vals (kvs.map (·.2)) (vs.map (·.2)) := by
  intro kvs vs r
  unfold KV at r
  induction r with
  | nil => exact .nil
  | cons h _ ih => exact .cons h.2 ih
def rReprK (K : PySem.W.Frag) : List V → Hp → VK → Prop := fun xs H Q => ∃ (p : Addr) (ws : List (Key × V)) (ds : List PyData), xs = [.ref p] ∧ Rd H p (.dK ws) ∧ DpAll K H (ws.map (·.2)) ds ∧ PyData.hasDictAll ds = false ∧
  ∃ kvs : List (PyData × PyData), kvs.map (·.1) = ws.map (fun kv => pkD kv.1) ∧ kvs.map (·.2) = ds ∧ (PyData.dict kvs).showable = true ∧ (PyData.dict kvs).depth ≤ 20 ∧ (PyData.dict kvs).shown.length ≤ sizeLine ∧ Q (.str (PyData.dict kvs).shown) H
section
variable {X : Cx} {W : WX} {k : Nat}
theorem noDict_keys {kvs : List (Key × V)} : PyData.hasDictAll (kvs.map fun kv => pkD kv.1) = false := by
  induction kvs with
  | nil => rfl
  | cons p r ih =>
    rw [List.map_cons, PyData.hasDictAll, ih]
    obtain ⟨k, v⟩ := p
    cases k <;> rfl
theorem call_reprK (hr : Room k X.A) : CallR X (.builtin "repr") (rReprK X.K) := by
  intro pins s σ H xs us Q I r h
  obtain ⟨a, ws, ds, rfl, hrd, dps, nd, kvs, ek, ev, hs, dep, hsz, q⟩ := h
  obtain ⟨u, rfl, rx⟩ := vals1 r
  cases rx
  obtain ⟨z, hsys, vs, rel, o, es, ep, h1, hx, h3, hko, hp, _⟩ := dk_rd I.hok hrd
  have h2 := hx.1
  obtain ⟨as, ra⟩ := Dp.readsAll I ds _ _ dps (KV.vals rel)
  have h4 : ReadsAll s.heap (es.toList.map (·.key)) (kvs.map (·.1)) [] := by
    rw [ek]
    have e2 : ws.map (fun kv => pkD kv.1) = vs.map fun kv => pkD kv.1 := by
      have := congrArg (List.map pkD) rel.keys
      rw [List.map_map, List.map_map] at this
      exact this
    rw [e2]
    exact pairs_keys hp
  have h5 : ReadsAll s.heap (es.toList.map (·.val)) (kvs.map (·.2)) as := by
    rw [ev, pairs_vals hp]
    exact ra
  have hz' : (dictText (PyData.shownKv kvs)).length ≤ sizeLine := by simpa only [PyData.shown] using hsz
  obtain ⟨hs1, hs2⟩ := PyData.showableKv_split kvs (by simpa [PyData.showable] using hs)
  obtain ⟨b1, hb1, k1⟩ := ReprAllK.of_readsAll (prog := X.prog) (w := X.w) h4 hs1 (fun hx' => by rw [ek, noDict_keys] at hx'; cases hx') (fun t ht => let ⟨p, hp, hl⟩ := PyData.shownKv_key_le kvs t ht; Nat.le_trans hl (Nat.le_trans (dictText_mem_le hp) hz'))
  obtain ⟨b2, hb2, k2⟩ := ReprAllK.of_readsAll (prog := X.prog) (w := X.w) h5 hs2 (fun hx' => by rw [ev, nd] at hx'; cases hx') (fun t ht => let ⟨p, hp, hl⟩ := PyData.shownKv_val_le kvs t ht; Nat.le_trans hl (Nat.le_trans (dictText_mem_le hp) hz'))
  have hb : ReadAtMost s.heap (PyData.depthKv kvs) (b1 ++ b2) := (hb1.mono (PyData.depthAll_keys_le kvs)).append (hb2.mono (PyData.depthAll_vals_le kvs))
  have hna : a ∉ b1 ++ b2 := not_mem_of_deeper (.dict h1 h2 h3 h4 h5) (by simp only [PyData.depth]; omega) hb
  have hu := hr.un
  have hd' : PyData.depthKv kvs + 1 ≤ 20 := by simpa only [PyData.depth] using dep
  have es' : (PyData.dict kvs).shown = dictText (List.zipWith (fun k v : Str => k ++ ": " ++ v) (PyData.shownAll (kvs.map (·.1))) (PyData.shownAll (kvs.map (·.2)))) := by simp only [PyData.shown, PyData.shownKv_eq]
  refine call_repr_slot (by omega) ⟨o, h1, h2⟩ PySem.F.slot_dict_repr (call_dict_reprK h1 h2 h3 hsys hna (ReprEntriesK.of_two es.toList _ _
    (k1.more_le (fun b hb => List.mem_append_left _ hb) (PyData.depthAll_keys_le kvs)) (k2.more_le (fun b hb => List.mem_append_right _ hb) (PyData.depthAll_vals_le kvs))) hr.gd (fun b _ => Clear.nil b) (by show X.A.units + 1 + _ < cLine; omega) (fun _ _ e => e) (fun h' u tk kp => ⟨_, _, rfl, .str _, H, I.kept (t' := tk) kp, ⟨u, by rw [es']⟩, q⟩) (by rw [← PyData.shownKv_eq]; exact hz'))
theorem repK_vals {K : PySem.W.Frag} {mg : Str → Option Value} {F : Hp} : ∀ {kvs : List (Key × D)} {ws : List (Key × V)}, repK K mg F kvs ws → repL K mg F (kvs.map (·.2)) (ws.map (·.2)) ∧ ws.map (fun kv => pkD kv.1) = kvs.map (fun kv => pkD kv.1)
  | [], _, h => by
    cases h
    exact ⟨rfl, rfl⟩
  | (k, d) :: kvs, _, ⟨w, ws, rfl, h1, h2⟩ => by
    obtain ⟨a, b⟩ := repK_vals h2
    exact ⟨⟨w, _, rfl, h1, a⟩, by rw [List.map_cons, List.map_cons, b]⟩
theorem uv_reprK : UnV X (fun v H Q => rReprK X.K [v] H Q) reprK := by
  intro F H v d z Q s h1 h3 k
  have sz : (100000 : Nat) ≤ sizeLine := by decide
  cases d with
  | dk kvs =>
    simp only [reprK] at h3
    split at h3
    · rename_i c
      cases h3
      obtain ⟨a, ws, rfl, ha, rw'⟩ := h1
      obtain ⟨r1, r2⟩ := repK_vals rw'
      refine ⟨a, ws, _, rfl, ha, rep_dpL s _ _ c.1 r1, noDict_toPyL _, kvs.map (fun (kv : Key × D) => (pkD kv.1, toPy kv.2)), ?_, ?_, c.2.1, c.2.2.1, by have := c.2.2.2; unfold toPyK at this; omega, k _ rfl⟩
      · rw [List.map_map, r2]
        rfl
      · rw [toPyL_map, List.map_map, List.map_map]
        rfl
    · cases h3
  | _ => cases h3
variable {a : Expr} {p pos : Pos} {fa : En → Res (BV × En)}
theorem de_reprA (hr : Room k X.A) (hm : X.mg "repr" = none) (ha : DB X W a fa) (hg : Gl X "repr" := by rfl) (hst : starEach [a] X.env = (false, eval a X.env) :: starEach [] X.env := by rfl) : DE X W (.Call (.Name "repr" p) [a] [] pos) (eUn (orU (orU reprB reprD) reprK) fa) :=
  (de_reprD hr hm ha hg hst).or1 (de_b1 (call_reprK hr) uv_reprK hg hm PyProof.Rows.boot_repr ha hst (by decide) (by decide))
end
end Dl

set_option Elab.async false
set_option linter.all false
set_option maxRecDepth 100000
set_option maxHeartbeats 4000000
namespace Dl
open PySem L2 PyProof.Rows
/-! ### sorted(tuple) -/
mutual
theorem reads_there {h : Heap} : ∀ (d : PyData) {v : Value} {as : List Addr}, Reads h v d as → ∀ b ∈ as, ∃ o, h.get? b = some o
  | .none, _, _, r, b, hb => by cases r; cases hb
  | .bool _, _, _, r, b, hb => by cases r; cases hb
  | .int _, _, _, r, b, hb => by cases r; cases hb
  | .str _, _, _, r, b, hb => by cases r; cases hb
  | .list xs, _, _, r, b, hb => by
    cases r with
    | list h1 h2 h3 h4 =>
      rcases List.mem_cons.mp hb with e | e
      · exact ⟨_, by rw [e]; exact h1⟩
      · exact readsAll_there xs h4 b e
  | .tuple xs, _, _, r, b, hb => by
    cases r with
    | tuple h1 h2 h3 h4 => exact readsAll_there xs h4 b hb
  | .dict kvs, _, _, r, b, hb => by
    cases r with
    | dict h1 h2 h3 h4 h5 =>
      rcases List.mem_append.mp hb with e | e
      · rcases List.mem_cons.mp e with e | e
        · exact ⟨_, by rw [e]; exact h1⟩
        · exact readsK_there kvs h4 b e
      · exact readsV_there kvs h5 b e
theorem readsAll_there {h : Heap} : ∀ (ds : List PyData) {vs : List Value} {as : List Addr}, ReadsAll h vs ds as → ∀ b ∈ as, ∃ o, h.get? b = some o
  | [], _, _, r, b, hb => by cases r; cases hb
  | d :: ds, _, _, r, b, hb => by
    cases r with
    | cons h1 h2 =>
      rcases List.mem_append.mp hb with e | e
      · exact reads_there d h1 b e
      · exact readsAll_there ds h2 b e
theorem readsK_there {h : Heap} : ∀ (ds : List (PyData × PyData)) {vs : List Value} {as : List Addr}, ReadsAll h vs (ds.map (·.1)) as → ∀ b ∈ as, ∃ o, h.get? b = some o
  | [], _, _, r, b, hb => by cases r; cases hb
  | (d, d') :: ds, _, _, r, b, hb => by
    cases r with
    | cons h1 h2 =>
      rcases List.mem_append.mp hb with e | e
      · exact reads_there d h1 b e
      · exact readsK_there ds h2 b e
theorem readsV_there {h : Heap} : ∀ (ds : List (PyData × PyData)) {vs : List Value} {as : List Addr}, ReadsAll h vs (ds.map (·.2)) as → ∀ b ∈ as, ∃ o, h.get? b = some o
  | [], _, _, r, b, hb => by cases r; cases hb
  | (d, d') :: ds, _, _, r, b, hb => by
    cases r with
    | cons h1 h2 =>
      rcases List.mem_append.mp hb with e | e
      · exact reads_there d' h1 b e
      · exact readsV_there ds h2 b e
end
section
variable {prog : Program} {w : World} {A : Around} {E : Value → Shared → Prop} {s : Shared}
theorem sorted_tuple_data {l : Addr} {vs : List Value} {bs : List D} {R : Value → D → Prop} {Q : Value → Shared → Prop} {o : Obj} {n : Nat} (ho : s.heap.get? l = some o) (hc : o.cls = .type "tuple") (hd : o.data = .seq vs.toArray n) (e : PySem.W.EachIs R vs bs)
    (er : PySem.W.EachIs (fun v b => ∃ as, Reads s.heap v (toPy b) as) vs bs) (hal : PySem.W.AllAlike (bs.map toPy)) (hk : PySem.W.Sortable (bs.map toPy)) (hL : bs.length ≤ sizeLine) (hu : ∀ b, b ∈ bs → A.units + 2 + (toPy b).depth < cLine)
    (h : ∀ (h1 : Heap) (out : List Value) (h' : Heap) (c : Nat), (∀ b o, s.heap.get? b = some o → h1.get? b = some o) → out.length = bs.length → PySem.W.EachIs R out (bs.mergeSort (PySem.W.dataLe false toPy)) → (∀ b o, h1.get? b = some o → h'.get? b = some o) → h'.get? h1.objs.size = some (PyProof.Rows.seqObj "list" out.toArray c) → Q (.ref h1.objs.size) { s with heap := h' }) :
    wpAny (model prog w) A (call (.builtin "sorted") [.ref l]) Q E s := by
  have hlen := e.length
  refine Calls.call_function_entry PyProof.Rows.kind_sorted PyProof.Rows.plain_sorted PyProof.Rows.entry_sorted (PyProof.Rows.args_sorted1 _) ?_
  unfold Builtin.«sorted»
  refine wpAny_bind (m := checkCount "sorted" 1 1 _) (wpAny_pure ?_)
  refine wpAny_bind (wpAny_collect_seq l (.inr rfl) ho hc hd (fun h1 k1 => ?_) (by rw [List.size_toArray]; omega))
  refine wpAny_bind (wpAny_newList ?_ (by simpa using (show vs.length ≤ sizeLine by omega)))
  have hoL : (h1.push (PyProof.Rows.seqObj "list" vs.toArray 0)).get? h1.objs.size = some (PyProof.Rows.seqObj "list" vs.toArray 0) := Heap.get?_push_size _ rfl
  have k2 : ∀ b o, s.heap.get? b = some o → (h1.push (PyProof.Rows.seqObj "list" vs.toArray 0)).get? b = some o := fun b o q => Heap.get?_push_of_some _ (k1 b o q)
  show wpAny _ _ _ _ _ { s with heap := h1.push (PyProof.Rows.seqObj "list" vs.toArray 0) }
  have er' : PySem.W.EachIs (fun v b => ∃ as, Reads (h1.push (PyProof.Rows.seqObj "list" vs.toArray 0)) v (toPy b) as ∧ h1.objs.size ∉ as) vs bs := er.mono fun v b ⟨as, r⟩ => ⟨as, PyProof.Rows.Reads.keeps k2 r, fun z => by
    obtain ⟨o', q⟩ := reads_there _ r _ z
    exact Nat.lt_irrefl _ (Heap.lt_size (k1 _ _ q))⟩
  refine wpAny_bind (wpAny_holding (PySem.W.list_sort_data (s := { s with heap := h1.push (PyProof.Rows.seqObj "list" vs.toArray 0) }) hoL e er' hal hk hL (fun b hb => by have := hu b hb; show A.units + 1 + 1 + _ < cLine; omega) fun out h1' h2' => ?_))
  obtain ⟨c, hc'⟩ := PyProof.Rows.sortedHeap_at (out := List.toArray out) hoL
  refine wpAny_pure ⟨_, rfl, h h1 out _ c k1 h1' h2' (fun b o q => ?_) hc'⟩
  have hb : b < h1.objs.size := Heap.lt_size q
  rw [PyProof.Rows.sortedHeap_old (Nat.ne_of_lt hb) (by rw [PyProof.Rows.size_push']; exact Nat.lt_succ_of_lt hb)]
  exact Heap.get?_push_of_some _ q
end
def sortedT : D → Option D
  | .tup ds => if okPyL ds = true ∧ allAlikeB (ds.map toPy) = true ∧ sortableB (ds.map toPy) = true ∧ ds.length ≤ 100000 then some (.lst (ds.mergeSort (PySem.W.dataLe false toPy))) else none
  | _ => none
def rSortT (K : PySem.W.Frag) (mg : Str → Option Value) : List V → Hp → VK → Prop := fun vs H Q => ∃ (a : Addr) (xs : List V) (F : Hp) (ds : List D), vs = [V.ref a] ∧ SqT K H a xs ∧ Same F H ∧ repL K mg F ds xs ∧ okPyL ds = true ∧ allAlikeB (ds.map toPy) = true ∧ sortableB (ds.map toPy) = true ∧ ds.length ≤ 100000 ∧
  ∀ (p : Addr) (ys : List V), H p = none → repL K mg F (ds.mergeSort (PySem.W.dataLe false toPy)) ys → Q (.ref p) (upd H p (.lst ys))
section
variable {X : Cx} {W : WX} {k : Nat}
theorem call_sortT (hu : X.A.units + 67 < cLine) : CallR X (.builtin "sorted") (rSortT X.K X.mg) := by
  intro pins s σ H vs us Q I r h
  obtain ⟨a, xs, F, ds, rfl, ha, sm, rl, ok, al, so, len, q⟩ := h
  rw [Vals.ref1 r]
  obtain ⟨its, rv, ⟨o, ho, hc, n, hd⟩, hz⟩ := I.tuple ha
  refine sorted_tuple_data (bs := ds) ho hc hd (each_of rl rv) (each_reads I sm ok rl rv) (allAlikeB_ok al) (sortableB_ok so) (sl100 len) (fun b hb => ?_) fun h1 out h' c k1 hlen he k2 hp => ?_
  · have q := SeqAt.depth_of_shaped (okPy_parts (List.all_eq_true.mp ok b hb)).2
    omega
  · obtain ⟨ys, h3, h4⟩ := of_each he
    have I1 : L2.Inv X pins σ H { s with heap := h1 } := I.kept (t' := s.toks) k1
    have hl' : ys.length ≤ sizeLine := by rw [repL_len h3, List.length_mergeSort]; exact sl100 len
    exact ⟨.ref _, upd H h1.objs.size (.lst ys), I1.laid (t' := s.toks) k2 (Nat.le_refl _) ⟨hl', out, c, h4, hp⟩, rfl, q _ ys (I1.hok.fresh (Nat.le_refl _)) h3⟩
theorem un_sortT : UnN X (fun v H Q => rSortT X.K X.mg [v] H Q) sortedT := by
  intro F H v d z Q s h1 h3 k
  unfold sortedT at h3
  split at h3
  · split at h3
    · rename_i hc
      cases h3
      obtain ⟨a, xs, rfl, ha, ra⟩ := h1
      exact ⟨a, xs, F, _, rfl, ha, s, ra, hc.1, hc.2.1, hc.2.2.1, hc.2.2.2, fun p ys hp hr => k p _ hp ⟨ys, upd_same, hr⟩⟩
    · cases h3
  · cases h3
variable {a : Expr} {pos p : Pos} {fa : En → Res (BV × En)}
theorem dn_sortedB (hc : X.calm = true) (hr : Room k X.A) (hm : X.mg "sorted" = none) (ha : DB X W a fa) (hg : Gl X "sorted" := by rfl) (hst : starEach [a] X.env = (false, eval a X.env) :: starEach [] X.env := by rfl) : DN X W (.Call (.Name "sorted" p) [a] [] pos) (eUn (orU (orU sortedD sortedT) sortedK) fa) :=
  ((dn_sorted hr hm ha hg hst).or1 (dn_b1 (call_sortT (by have := Room.u200 hr; omega)) un_sortT hg hm PyProof.Rows.boot_sorted ha hst (by decide) (by decide))).or1 (dn_b1 (call_sortedD hc) un_sortedK hg hm PyProof.Rows.boot_sorted ha hst (by decide) (by decide))
end
end Dl

set_option Elab.async false
set_option linter.all false
set_option maxRecDepth 100000
set_option maxHeartbeats 4000000
namespace Dl
open PySem L2 PyProof.Rows ItX
/-! ### an own __iter__ that returns iter(self.n), n a sealed dict -/
/-- at it stands a new iterator over the keys of d -/
def KyO (d it : Addr) (o : Obj) (n : Nat) : HO := .ext fun h => ∃ es ep, o.data = .dict es ep ∧ h.IsKeyIter it d 0 n ep
theorem kyO_ok {P : Program} {w : World} {H : Hp} {h : Heap} {d it : Addr} {o : Obj} {n : Nat} (e : ∃ es ep, o.data = .dict es ep ∧ h.IsKeyIter it d 0 n ep) : ObjOk P w H h it (KyO d it o n) :=
  ⟨e, let ⟨_, _, _, ob, q, _⟩ := e; ⟨ob, q⟩, fun h1 h2 q k => let ⟨es, ep, q1, ob, q2, q3⟩ := q; ⟨es, ep, q1, ob, k _ q2, q3⟩⟩
def rIterK (N : Nat) : List V → Hp → VK → Prop := fun xs H Q => ∃ (d : Addr) (o : Obj) (kvs : List (Key × V)), xs = [.ref d] ∧ H d = some (.frz o (.dK kvs)) ∧ ∀ it, H it = none → N ≤ it → Q (.ref it) (upd H it (KyO d it o kvs.length))
/-- what such a def promises -/
def spIt (mg : Str → Option Value) (c n : Str) (N : Nat) : Sp := fun vs H Q _ => ∃ (a C dx : Addr) (ws : List (Str × V)) (d : Addr) (o : Obj) (kvs : List (Key × V)), vs = [.ref a] ∧ mg c = some (.ref C) ∧ H a = some (.ins C dx ws) ∧ ws.lookup n = some (.ref d) ∧ H d = some (.frz o (.dK kvs)) ∧
  ∀ it, H it = none → N ≤ it → Q (.ref it) (upd H it (KyO d it o kvs.length))
section
variable {X : Cx}
theorem call_iterK : CallR X (.builtin "iter") (rIterK X.s_0.heap.objs.size) := by
  intro pins s σ H xs us Q I r h
  obtain ⟨d, o, kvs, rfl, hd, q⟩ := h
  obtain ⟨u, rfl, ru⟩ := vals1 r
  cases ru
  obtain ⟨hs, hgd, hx, es, ep, vs, hdt, hsz, kv, hm⟩ := I.frzK hd
  refine Calls.call_function_entry (by decide +kernel) (by decide +kernel) PySem.W.kdk_entry_iter (PySem.W.kdk_args_iter _) ?_
  unfold Builtin.«iter»
  refine wpAny_bind (m := someArgs "iter" 1 2 _) (wpAny_of_eq (a := [Value.ref d]) (by first | rfl | kernel_rfl!) ?_)
  show wpAny _ _ (pyIter (.ref d) >>= _) _ _ _
  refine wpAny_bind (iter_keys hs hgd hx hdt ?_)
  refine wpAny_pure ⟨_, rfl, .ref s.heap.objs.size, _, I.laid (t' := s.toks) (fun b u e => Heap.get?_push_of_some _ e) (Nat.le_refl _) (kyO_ok (d := d) (o := o) (n := kvs.length) ⟨es, ep, hdt, _, Heap.get?_push_size _ rfl, rfl, ?_⟩), rfl, q _ (I.hok.fresh (Nat.le_refl _)) I.sz⟩
  rw [hsz]
  rfl
end
structure FnN (P : Program) (w : World) (K : PySem.W.Frag) (mg : Str → Option Value) (base : Heap) (CX : CXT) (k : Nat) (f : Addr) (fd : FuncData) (ps : List Str) (sp : Nat → Sp) : Prop where
  run : ∀ (N : Nat) (A : Around) (outer : List Env) (s : Shared) (H : Hp) (args : Args) (us : List Value) (vs : List V) (Q : VK) (E : XK), N ≤ s.heap.objs.size →
    Room k A → Env0 P w K mg base A outer s H → BindsTo s fd args (ps.zip us) → Vals vs us → sp N vs H Q E → codeAny (model P w) A (.call (.ref f) args) (CR CX outer P w H s Q E) s
section
variable {P : Program} {w : World} {K : PySem.W.Frag} {mg : Str → Option Value} {base : Heap} {k : Nat} {f : Addr} {fd : FuncData} {ps : List Str}
/-- a def with a promise that holds of states of this size alone -/
theorem fun_okN {CX : CXT} {sp : Nat → Sp} {x qual : Str} {params : Arguments} {body : List Stmt} {scope : Scope} {dvs : List V} {kws : List (Str × V)} {N : List Str} (FD : FunD K x qual params body scope dvs kws f fd) (S : FnScope N ps scope) (len : ∀ n vs H Q E, sp n vs H Q E → vs.length = ps.length)
    (hb : ∀ (n : Nat) (cdv : Value) (A : Around) (outer : List Env) (s : Shared) (H : Hp) (vs : List V) (Q : VK) (E : XK), n ≤ s.heap.objs.size → Room k (A.deeper (envOfC qual scope s.heap.objs.size f cdv)) → sp n vs H Q E →
      ∃ t, PSs (cxOf CX P w K mg base N qual scope f cdv A outer s H E) body t ∧ t { nx := fun _ H' => Q .non H', rt := Q } (start N vs) H) : FnN P w K mg base CX (k + 1) f fd ps sp := by
  refine ⟨fun n A outer s H args us vs Q E hn room e0 bt rel prom => ?_⟩
  obtain ⟨oc, od, dV, kV, doc, pm, an, cdv, ct, osl, rfl, lk, hcd, _, _⟩ := FD.ex
  have there : ∀ b o, base.get? b = some o → s.heap.get? b = some o := fun b o e => (e0.bs b o e).1
  have kin : K.In s.heap := e0.mod.kin.keeps there
  have kinds : ∀ y ∈ ps.zip us, scope.names.lookup y.1 = some .local ∨ (scope.names.lookup y.1 = some .cell ∧ ((cellsFrom (s.heap.objs.size + 1) scope.names []).lookup y.1).isSome = true) := fun y my =>
    (S.par y.1 (List.of_mem_zip (a := y.1) (b := y.2) my).1).imp id fun h => ⟨h, PySem.W.cellsFrom_some _ _ _ (Or.inl h)⟩
  refine codeAny_call_function room.depth (kin _ _ lk) rfl S.co S.gen rfl (PySem.W.codeRec_of kin hcd) (bt _ _ _ _ (wpAny_newFunctionEnv_cells S.kind kinds fun env ee s1 entry => ?_))
  subst ee
  refine ⟨(e0.mod.nolimit.keeps there).keeps entry.toInCall.keep, codeAny_func ?_⟩
  obtain ⟨t, pt, ht⟩ := hb n cdv A outer s H vs Q E hn (room.deeper _) prom
  refine wpAny_mono (pt.run [] s1 (start N vs) H _ (inv_start (CX := CX) (E := E) (qual := qual) (f := f) (cd := cdv) S room.hd e0 (len _ _ _ _ _ prom) rel entry) ht) (fun fl s' out => ?_) fun _ _ z => z
  cases fl with
  | ret u =>
    obtain ⟨v, σ1, H1, J, rv, q⟩ := out
    exact ⟨v, H1, J.os, J.bare, J.base, J.hok, rv, q⟩
  | next =>
    obtain ⟨σ1, H1, J, q⟩ := out
    exact ⟨V.non, H1, J.os, J.bare, J.base, J.hok, rfl, q⟩
  | brk => exact (let ⟨_, _, _, no⟩ := out; no).elim
  | cont => exact (let ⟨_, _, _, no⟩ := out; no).elim
variable (P w K mg base)
structure CalI (k : Nat) (f : Addr) (c n : Str) : Prop where
  ex : ∃ (fd : FuncData) (ps : List Str), FnN P w K mg base (L2.CX P w) k f fd ps (spIt mg c n) ∧ Binds K fd ps [] ∧ ps.length = 1
end
section
variable {P : Program} {w : World} {K : PySem.W.Frag} {mg : Str → Option Value} {base : Heap} {x qual self c n : Str} {params : Arguments} {body : List Stmt} {scope : Scope} {f : Addr} {fd : FuncData} {p p1 p2 pos pos' : Pos}
theorem cal_I (F : FunD K x qual params body scope [] [] f fd) (S : FnScope [self] [self] scope) (na : ∀ c' ∈ [c], ∀ C, mg c' = some (.ref C) → Cls K C ∧ NoAttr K C n) (fr : mg "iter" = none)
    (h : ∀ (kV doc pm : Value) (an : Option Addr) (cdv ct : Value) (us : List Value), us.length = [self].length → bindArgs (PySem.W.fnOf x qual params body scope .none kV doc pm an cdv ct) ⟨us, []⟩ = pure ([self].zip us))
    (hb : body = [.Return (some (.Call (.Name "iter" p) [.Attribute (.Name self p1) n p2] [] pos)) pos'] := by rfl) (hsl : scope.names.lookup self = some .local := by rfl)
    (hg : scope.names.lookup ("iter" : Str) = some NameKind.globalImplicit := by rfl)
    (hyd : (self == ("__debug__" : Str)) = false := by decide) (hcd : (self == ("__classdict__" : Str)) = false := by decide) : CalI P w K mg base 1 f c n := by
  subst hb
  refine ⟨fd, [self], fun_okN F S (fun _ vs H Q E ⟨a, C, dx, ws, d, o, kvs, e, _⟩ => by rw [e]; rfl) (fun N cdv A outer s H vs Q E hn hr hsp => ?_), F.bindsN h, rfl⟩
  obtain ⟨a, C, dx, ws, d, o, kvs, rfl, hC, ha, hl, hd, q⟩ := hsp
  obtain ⟨cl, nt⟩ := na c (by simp) C hC
  refine ⟨_, pss_one (ps_ret (pe_callB call_iterK hg fr rfl (pa_cons (pe_fld (pe_var (i := 0) (x := self) rfl (.inl hsl) hyd hcd) rfl) pa_nil rfl) (by decide) (by decide) rfl rfl)), ?_⟩
  exact ⟨_, rfl, a, C, dx, ws, .ref d, rfl, ha, cl, nt, hl, d, o, kvs, rfl, hd, fun it hi hN => q it hi (Nat.le_trans hn hN)⟩
end
/-! ### for x in o -/
def iOwn (c n : Str) (f : En → Res (D × En)) : En → Res (List D × En) := fun r => (f r).bind fun p => match p.1 with
  | .ins c' fs => if c' = c then (match fs.lookup n with
    | some (.dk kvs) => .ok (keysOfD kvs, p.2)
    | _ => .bad) else .bad
  | _ => .bad
section
variable {X : Cx} {W : WX} {tg e : Expr} {c n : Str} {C f : Addr} {k j : Nat} {ff : En → Res (D × En)} {te : TE}
def iOwnT (mg : Str → Option Value) (c n : Str) (te : TE) : TI := fun σ H R => te σ H fun x H1 => ∃ (a C dx : Addr) (ws : List (Str × V)) (d : Addr) (o : Obj) (kvs : List (Key × V)), x = .ref a ∧ mg c = some (.ref C) ∧ H1 a = some (.ins C dx ws) ∧ ws.lookup n = some (.ref d) ∧ H1 d = some (.frz o (.dK kvs)) ∧ R (Itk d o kvs) H1
theorem pi_own (F : CalI X.prog X.w X.K X.mg X.base k f c n) (tk : Takes X W) (hr : Room j X.A) (hk : k ≤ j) (hc : X.mg c = some (.ref C)) (hm : Meth X.K C "__iter__" f) (he : PE X e te) : PI X tg e (iOwnT X.mg c n te) := by
  obtain ⟨fd, ps, G, hb, hl⟩ := F.ex
  refine ⟨fun pins s σ H R I h => thn (he.run pins s σ H _ I h) fun u s1 ⟨x, H1, I1, rx, a, C', dx, ws, d, o, kvs, ex, hC, ha, hw, hd, q⟩ => ?_⟩
  subst ex
  obtain rfl : u = Value.ref a := rx
  rw [hc] at hC
  cases hC
  obtain ⟨mA, J, _⟩ := ins_get I1.hok ha
  obtain ⟨od, J, _⟩ := J.look
  obtain ⟨m0, hF⟩ := I1.fr
  refine PySem.W.owit_iter hF I1.ok.mod.kin J hm.at_ hm.fn ?_
  have go := G.run X.s_0.heap.objs.size X.A X.stack s1 H1 ⟨[.ref a], []⟩ [.ref a] [.ref a] (fun v H' => ∃ it, v = .ref it ∧ H1 it = none ∧ X.s_0.heap.objs.size ≤ it ∧ H' = upd H1 it (KyO d it o kvs.length)) (WE W σ) I1.sz (hr.mono hk) I1.env0
    (by have := hb s1 [.ref a] I1.kIn (by simpa using hl.symm); simpa using this) (.cons rfl .nil) ⟨a, C, dx, ws, d, o, kvs, rfl, hc, ha, hw, hd, fun it h1 h2 => ⟨it, rfl, h1, h2, rfl⟩⟩
  refine wpAny_call (codeAny_mono go fun out s' z => ?_)
  match out, z with
  | .error e, z => exact passAt tk σ pins H1 s1 e s' I1 z
  | .ok .next, z => exact z.elim
  | .ok .brk, z => exact z.elim
  | .ok .cont, z => exact z.elim
  | .ok (.ret u), z =>
    obtain ⟨v, H', I', rv, it, ev, hi, hN, eH⟩ := I1.after z
    subst ev
    rw [eH] at I'
    cases rv
    obtain ⟨es, ep, hdt, st⟩ := (I'.hok it _ upd_same).1
    unfold PySem.W.OwitIt
    refine wpAny_specialOf st.typeIs PySem.F.slot_dict_keyiterator_next.lookup ?_
    have I2 := inv_drop I' (a := it) upd_same
    rw [dropH_upd hi] at I2
    refine ⟨it, [it], _, Itk d o kvs, H1, rfl, I2, turn_keys it hdt, st, fun b hb => ?_, q⟩
    have e : b = it := by simpa using hb
    rw [e]
    have z := inv_fp I' (a := it) upd_same hN
    rw [dropH_upd hi] at z
    exact z
theorem di_own (F : CalI X.prog X.w X.K X.mg X.base k f c n) (tk : Takes X W) (hr : Room j X.A) (hk : k ≤ j) (hc : X.mg c = some (.ref C)) (hm : Meth X.K C "__iter__" f) (h : DE X W e ff) : DI X W tg e (iOwn c n ff) := by
  obtain ⟨t, hp, he⟩ := h.ex
  refine ⟨_, pi_own F tk hr hk hc hm hp, fun B F H r σ Q R p => he.to R p fun d r1 v F1 H1 R1 s1 x1 p1 => ?_⟩
  cases d with
  | ins c' fs =>
    simp only at p1
    by_cases hcc : c' = c
    · subst hcc
      rw [if_pos rfl] at p1
      obtain ⟨a, C', dx, ws, rfl, hC, hF, hr'⟩ := x1
      cases hl : fs.lookup n with
      | none =>
        simp only [hl] at p1
        exact p1.elim
      | some dd =>
        cases dd with
        | dk kvs =>
          simp only [hl] at p1
          obtain ⟨v', l1, d, o, ws', rfl, hd, hw⟩ := repF_look hr' hl
          exact ⟨a, C', dx, ws, d, o, ws', rfl, hC, R1.fh _ _ hF, l1, R1.fh _ _ hd, p1 _ F1 H1 R1 (Same.refl F1) (wk_keys hd hw)⟩
        | _ =>
          simp only [hl] at p1
          exact p1.elim
    · rw [if_neg hcc] at p1
      exact p1.elim
  | _ => exact p1.elim
end
end Dl

set_option Elab.async false
set_option linter.all false
set_option maxRecDepth 100000
set_option maxHeartbeats 4000000
namespace Dl
open PySem L2 PyProof.Rows PpSet
/-! ### {e for .. in .. for .. in ..}: a set of numbers and texts -/
def dedL (ks : List Key) : List Key := ks.foldl dedS []
theorem dedL_snoc (ks : List Key) (k : Key) : dedL (ks ++ [k]) = dedS (dedL ks) k := by
  unfold dedL
  rw [List.foldl_append]
  rfl
theorem dedL_le : ∀ (ks : List Key) (l : List Key), (ks.foldl dedS l).length ≤ l.length + ks.length
  | [], l => by simp
  | k :: ks, l => by
    rw [List.foldl_cons, List.length_cons]
    have h1 := dedL_le ks (dedS l k)
    have h2 := dedS_length l k
    split at h2 <;> omega
/-- at a stands the set of the ks -/
def SeO (P : Program) (w : World) (a : Addr) (ks : List Key) : HO := .ext fun h => h.SetOf (mixKind P w) a (memS (dedL ks)) (dedL ks).length
theorem seO_ok {P : Program} {w : World} {H : Hp} {h : Heap} {a : Addr} {ks : List Key} (R : h.SetOf (mixKind P w) a (memS (dedL ks)) (dedL ks).length) : ObjOk P w H h a (SeO P w a ks) := by
  have ⟨o, _, _, _, ho, _⟩ := R
  refine ⟨R, ⟨o, ho⟩, fun h1 h2 p k => ?_⟩
  obtain ⟨o, es, ep, t, ho, r⟩ := p
  exact ⟨o, es, ep, t, k o ho, r⟩
section
variable {X : Cx} {pins : List (Addr × Obj)} {σ : L2.St} {H : Hp} {s : Shared} {D : Addr} {ks : List Key}
theorem seO_get (I : L2.Inv X pins σ H s) (ha : H D = some (SeO X.prog X.w D ks)) : s.heap.SetOf (mixKind X.prog X.w) D (memS (dedL ks)) (dedL ks).length := (I.hok D _ ha).1
theorem addK_ok {E : Value → Shared → Prop} {k : Key} {u : Value} {Q : Value → Shared → Prop} (I : L2.Inv X pins σ H s) (hD : H D = some (SeO X.prog X.w D ks)) (ru : RelV (kV k) u) (room : ks.length + 1 < scanBound)
    (h : ∀ s', L2.Inv X pins σ (upd H D (SeO X.prog X.w D (ks ++ [k]))) s' → Q .none s') : wpAny (model X.prog X.w) X.A (call (.builtin "set.add") [.ref D, u]) Q E s := by
  have hS := seO_get I hD
  have hv : (mixKind X.prog X.w).is k u = true := kV_is ru
  have hr : (dedL ks).length + 1 < scanBound := by
    have := dedL_le ks []
    unfold dedL
    simp only [List.length_nil] at this
    omega
  refine wpAny_call_entry PySem.F.slot_set_add hS.typeIs PySem.F.entry_set_add ?_ (PySem.F.args_set_add_2 _ _)
  unfold Builtin.«set.add» Builtin.Frozenset.oneOther
  simp only [List.isEmpty_nil, bind_assoc]
  unfold Builtin.Frozenset.addrOf setAdd
  refine wpAny_bind (wpAny_pure ?_)
  try dsimp only
  refine wpAny_bind (wpAny_pure ?_)
  try dsimp only
  refine wpAny_bind (wpAny_holding (wpAny_bind ((mixKind X.prog X.w).pyHash (k := k) hv ?_)))
  refine wpAny_setAddHashed_of (knd := mixKind X.prog X.w) (s := { s with toks := s.toks + 1 }) hv (scan_key hv) hS hr fun h' sb hS2 => ?_
  show wpAny _ _ (ret Value.none) _ _ _
  have new : h'.SetOf (mixKind X.prog X.w) D (memS (dedL (ks ++ [k]))) (dedL (ks ++ [k])).length := setOf_congr hS2 (fun k' => by rw [dedL_snoc, memS_ded]) (by rw [dedL_snoc, dedS_length])
  have he : ∃ u, h'.get? D = some u := by
    have ⟨o, _, _, _, ho, _⟩ := new
    exact ⟨o, ho⟩
  exact wpAny_pure ⟨_, rfl, h _ (I.write (e := D) (t' := s.toks + 1) (by rw [hD]; trivial) (.inl rfl) (fun b u hb hu => (sb.2 b hb).trans hu) he (seO_ok new))⟩
end
/-! the turns -/
section
variable {prog : Program} {w : World} {A : Around} {R : Result → Shared → Prop} {s : Shared} {elt t0 i0 t1 i1 : Expr} {scope : Scope} {pos : Pos} {it acc : Value} {env : Env}
abbrev sc2 (elt t0 i0 t1 i1 : Expr) (scope : Scope) (pos : Pos) : Expr := .SetComp elt [⟨t0, i0, [], 0⟩, ⟨t1, i1, [], 0⟩] scope pos
theorem turn_first (it acc : Value) (env : Env) : compTurn (sc2 elt t0 i0 t1 i1 scope pos) 0 it acc env = (do
    standAt i0.pos
    match ← pyNext it with
    | none => pure (.done .next)
    | some v =>
      letOwnedTupleGo t0 it v
      assign t0 env v
      let x ← eval i1 env
      standAt i1.pos
      let x ← foldedSetIterable i1 env x
      let _ ← runOwn (.compStart (sc2 elt t0 i0 t1 i1 scope pos) 1 (← holding [x] (pyIter x)) acc env) env
      again (.compLoop (sc2 elt t0 i0 t1 i1 scope pos) 0 it acc env)) := by rfl
theorem turn_second (it acc : Value) (env : Env) : compTurn (sc2 elt t0 i0 t1 i1 scope pos) 1 it acc env = (do
    standAt i1.pos
    match ← pyNext it with
    | none => pure (.done .next)
    | some v =>
      letOwnedTupleGo t1 it v
      assign t1 env v
      (do let v ← eval elt env; standAt elt.pos; let _ ← call (.builtin "set.add") [acc, v])
      again (.compLoop (sc2 elt t0 i0 t1 i1 scope pos) 1 it acc env)) := by rfl
abbrev nb (prog : Program) (w : World) (A : Around) (env : Env) (R : Result → Shared → Prop) : Value → Shared → Prop := notedBy (model prog w) A env fun e s' => R (.error e) s'
theorem loop_first (hs : ∀ x, foldedSetIterable i1 env x = pure x) (I : Nat → Shared → Prop)
    (turn : ∀ n s, I n s → wpAny (model prog w) A (pyNext it) (fun r s₁ => match r with
      | none => R (.ok .next) s₁
      | some v => wpAny (model prog w) A (letOwnedTupleGo t0 it v) (fun _ s₁' => wpAny (model prog w) A (assign t0 env v) (fun _ s₂ =>
          wpAny (model prog w) A (eval i1 env) (fun x s₄ => wpAny (model prog w) A (pyIter x) (fun it1 s₅ =>
            codeAny (model prog w) A (.compStart (sc2 elt t0 i0 t1 i1 scope pos) 1 it1 acc env) (fun r s' => match r with
              | .ok _ => ∃ m, m < n ∧ I m s'
              | .error _ => False) s₅) (nb prog w A env R) s₄) (nb prog w A env R) s₂) (nb prog w A env R) s₁') (nb prog w A env R) s₁) (nb prog w A env R) s)
    (n : Nat) (h : I n s) : codeAny (model prog w) A (.compLoop (sc2 elt t0 i0 t1 i1 scope pos) 0 it acc env) R s := by
  refine codeAny_loop rfl I (fun n s hI => ?_) n h
  show wpAny _ A ((compTurn (sc2 elt t0 i0 t1 i1 scope pos) 0 it acc env).onRaise (fun x => do noteFrame x env; theTreesLotGoes x)) _ _ s
  refine wpAny_noted ?_
  rw [turn_first]
  refine wpAny_bind (wpAny_standAt (wpAny_bind (wpAny_mono (turn n s hI) (fun r s₁ h₁ => ?_) fun _ _ z => z)))
  match r, h₁ with
  | none, h₁ => exact wpAny_pure h₁
  | some v, h₁ =>
    refine wpAny_bind (wpAny_mono h₁ (fun _ s₁' h₁' => wpAny_bind (wpAny_mono h₁' (fun _ s₂ h₂ => wpAny_bind (wpAny_mono h₂ (fun x s₄ h₄ => ?_) fun _ _ z => z)) fun _ _ z => z)) fun _ _ z => z)
    refine wpAny_bind (wpAny_standAt (wpAny_bind (wpAny_of_eq (hs x) (wpAny_bind (wpAny_holding (wpAny_mono h₄ (fun it1 s₅ h₅ => wpAny_bind (wpAny_runOwn ?_)) fun _ _ z => z))))))
    rw [Around.mark_none]
    refine codeAny_mono h₅ fun r s' hr => ?_
    match r, hr with
    | .ok f, hr =>
      first
        | exact wpAny_pure ⟨rfl, hr⟩
        | exact wpAny_bind (wpAny_pure (wpAny_pure ⟨rfl, hr⟩))
    | .error e, hr => exact hr.elim
theorem loop_second (I : Nat → Shared → Prop)
    (turn : ∀ n s, I n s → wpAny (model prog w) A (pyNext it) (fun r s₁ => match r with
      | none => R (.ok .next) s₁
      | some v => wpAny (model prog w) A (letOwnedTupleGo t1 it v) (fun _ s₁' => wpAny (model prog w) A (assign t1 env v) (fun _ s₂ =>
          wpAny (model prog w) A (eval elt env) (fun x s₄ =>
            wpAny (model prog w) A (call (.builtin "set.add") [acc, x]) (fun _ s₅ => ∃ m, m < n ∧ I m s₅) (nb prog w A env R) s₄) (nb prog w A env R) s₂) (nb prog w A env R) s₁') (nb prog w A env R) s₁) (nb prog w A env R) s)
    (n : Nat) (h : I n s) : codeAny (model prog w) A (.compLoop (sc2 elt t0 i0 t1 i1 scope pos) 1 it acc env) R s := by
  refine codeAny_loop rfl I (fun n s hI => ?_) n h
  show wpAny _ A ((compTurn (sc2 elt t0 i0 t1 i1 scope pos) 1 it acc env).onRaise (fun x => do noteFrame x env; theTreesLotGoes x)) _ _ s
  refine wpAny_noted ?_
  rw [turn_second]
  refine wpAny_bind (wpAny_standAt (wpAny_bind (wpAny_mono (turn n s hI) (fun r s₁ h₁ => ?_) fun _ _ z => z)))
  match r, h₁ with
  | none, h₁ => exact wpAny_pure h₁
  | some v, h₁ =>
    exact wpAny_bind (wpAny_mono h₁ (fun _ s₁' h₁' => wpAny_bind (wpAny_mono h₁' (fun _ s₂ h₂ => wpAny_bind (wpAny_bind (wpAny_mono h₂ (fun x s₄ h₄ => wpAny_bind (wpAny_standAt (wpAny_bind (wpAny_mono h₄ (fun _ s₅ h₅ => wpAny_pure (wpAny_pure ⟨rfl, h₅⟩)) fun _ _ z => z)))) fun _ _ z => z))) fun _ _ z => z)) fun _ _ z => z)
theorem start_second (h0 : codeAny (model prog w) A (.compLoop (sc2 elt t0 i0 t1 i1 scope pos) 1 it acc env) R s)
    (h : wpAny (model prog w) A (pyIter it) (fun it' s' => codeAny (model prog w) A (.compLoop (sc2 elt t0 i0 t1 i1 scope pos) 1 it' acc env) R s') (nb prog w A env R) s) :
    codeAny (model prog w) A (.compStart (sc2 elt t0 i0 t1 i1 scope pos) 1 it acc env) R s := by
  refine codeAny_of_tree ?_
  show wpAny _ _ ((compStart (sc2 elt t0 i0 t1 i1 scope pos) 1 it acc env).onRaise (fun x => do noteFrame x env; standAt theWindowsPlace)) _ _ s
  refine wpAny_notedAt ?_
  unfold compStart
  show wpAny _ _ (ask >>= _) _ _ s
  refine wpAny_bind (wpAny_askSetting (wpAny_ite ?_))
  split
  · first
      | exact wpAny_bind (wpAny_pure (wpAny_pure (And.intro rfl h0)))
      | exact wpAny_pure (And.intro rfl h0)
  · first
      | exact wpAny_bind (wpAny_rule (wpAny_bind (wpAny_standAt (wpAny_bind (wpAny_mono h (fun it' s' h' => wpAny_pure (And.intro rfl h')) fun _ _ x => x)))))
      | (refine wpAny_bind (wpAny_rule ?_); show wpAny _ _ (standAt i1.pos >>= _) _ _ s; exact wpAny_bind (wpAny_standAt (wpAny_bind (wpAny_mono h (fun it' s' h' => wpAny_pure (And.intro rfl h')) fun _ _ x => x))))
end
end Dl

set_option Elab.async false
set_option linter.all false
set_option maxRecDepth 100000
set_option maxHeartbeats 4000000
namespace Dl
open PySem L2 PyProof.Rows PpSet
section
variable {X : Cx}
/-- {e for tg in iter for tg1 in iter1}: D the new set; W, W1: what is known ahead of a turn of the first and of the second clause -/
def tSc2 (P : Program) (w : World) (wi : TI) (g : TG) (wi1 : TI) (g1 : TG) (te : TE) (vs vs1 : List Nat) : TE := fun σ H Q => wi σ H fun J H1 => ∀ D, H1 D = none → ∃ W : Nat → Nat → Hp → Prop, (∃ m, W 0 m (upd H1 D (SeO P w D []))) ∧ ∀ i m H, W i m H →
  (J.stop i H ∧ Q (.ref D) H) ∨ (J.go i H ∧ ∃ Nx : Hp → Prop, (∀ H', Nx H' → ∃ m', m' < m ∧ W (i + 1) m' H') ∧ ∀ x H', J.yld i H x H' → g x (wipe σ vs) H' fun σ2 H2 => wipe σ2 vs = wipe σ vs ∧
    wi1 σ2 H2 fun J1 H4 => ∃ W1 : Nat → Nat → Hp → Prop, (∃ m, W1 0 m H4) ∧ ∀ j k H, W1 j k H →
      (J1.stop j H ∧ Nx H) ∨ (J1.go j H ∧ ∃ Nx1 : Hp → Prop, (∀ H', Nx1 H' → ∃ k', k' < k ∧ W1 (j + 1) k' H') ∧ ∀ x H', J1.yld j H x H' → g1 x (wipe σ2 vs1) H' fun σ3 H5 => wipe σ3 vs1 = wipe σ2 vs1 ∧
        te σ3 H5 fun y H7 => ∃ (ks : List Key) (c : Key), y = kV c ∧ H7 D = some (SeO P w D ks) ∧ ks.length + 1 < scanBound ∧ Nx1 (upd H7 D (SeO P w D (ks ++ [c])))))
theorem sc2_core {pins : List (Addr × Obj)} {s : Shared} {σ : L2.St} {H : Hp} {Q : VK} {use : Option (Value → Sem Unit)} {Qf : Value → Shared → Prop} {elt tg iter tg1 iter1 : Expr} {scope : Scope} {own : List (Str × Nat)} {vs1 : List Nat} {pos pos' : Pos} {wi wi1 : TI} {g g1 : TG} {te : TE} (hc : X.calm = true) (hN : X.N.Nodup) (I : L2.Inv X pins σ H s) (hi : PI X tg iter wi) (ok : BlkOk X.N X.env.scope scope own) (hv : ∀ i ∈ vs1, i ∈ own.map (·.2))
    (hg : ∀ (s : Shared) (H : Hp) (C : Addr) (cl : List (Str × Addr)) (fp : List Addr), PG (X.blk s H scope (compEnvC scope cl C X.env) fp) tg g)
    (hi1 : ∀ (s : Shared) (H : Hp) (C : Addr) (cl : List (Str × Addr)) (fp : List Addr), PI (X.blk s H scope (compEnvC scope cl C X.env) fp) tg1 iter1 wi1)
    (hg1 : ∀ (s : Shared) (H : Hp) (C : Addr) (cl : List (Str × Addr)) (fp : List Addr), PG (X.blk s H scope (compEnvC scope cl C X.env) fp) tg1 g1)
    (he : ∀ (s : Shared) (H : Hp) (C : Addr) (cl : List (Str × Addr)) (fp : List Addr), PE (X.blk s H scope (compEnvC scope cl C X.env) fp) elt te)
    (hs : ∀ x, foldedSetIterable iter X.env x = pure x) (hs1 : ∀ env x, foldedSetIterable iter1 env x = pure x) (h : tSc2 X.prog X.w wi g wi1 g1 te (own.map (·.2)) vs1 σ H Q)
    (hRR : ∀ D C s' m H', L2.Inv X pins σ H' s' → Q (.ref D) H' → s'.heap.Ns C m → FpOk X pins H' C → compPost (model X.prog X.w) X.A X.xe use Qf (.ref D) C (.ok .next) s') :
    wpAny (model X.prog X.w) X.A (comprehension (sc2 elt tg iter tg1 iter1 scope pos) scope X.env pos' (newSet (.type "set")) false (eval iter X.env) use) Qf X.xe s := by
  have free' : ∀ y ∈ scope.names, y.2 = .free → ∃ c, X.env.cells.lookup y.1 = some c := fun y hy e => (ok.free y hy e).elim (fun k => I.ok.has _ (.inl k)) fun k => I.ok.has _ (.inr k)
  refine wpAny_comprehension_free (use := use) rfl hs (closure_ok free') ok.kind (fun y hy e => by rw [ok.uniq y hy, e]) (thn (hi.run pins s σ H _ I h) fun xv s1 hx => thn hx fun itv s2 h2 => ?_)
  obtain ⟨it, fp, tn, J, H2, rfl, I2, T, st2, f2, q⟩ := h2
  refine newSet_ok (newEnv_comp ?_)
  generalize hD : s2.heap.objs.size = D
  obtain ⟨W, ⟨m0, w0⟩, turn⟩ := q D (I2.hok.fresh (Nat.le_of_eq hD))
  generalize hs3 : ({ s2 with heap := s2.heap.push { cls := .type "set", dict := none, data := .set #[] 0 (.fresh 0 0 (!X.w.params.followText "set-order")) } } : Shared) = s3
  have h3 : s3.heap = s2.heap.push { cls := .type "set", dict := none, data := .set #[] 0 (.fresh 0 0 (!X.w.params.followText "set-order")) } := by rw [← hs3]
  have I3 : L2.Inv X pins σ (upd H2 D (SeO X.prog X.w D [])) s3 := by
    rw [← hs3, ← hD]
    exact I2.laid (t' := s2.toks) (fun b o e => Heap.get?_push_of_some _ e) (Nat.le_refl _) (seO_ok (setOf_congr (set_at (Heap.get?_push_size _ rfl)) (fun k => rfl) rfl))
  -- the source's iterator is older than the set
  have f3 : ∀ b ∈ fp, FpOk X pins (upd H2 D (SeO X.prog X.w D [])) b ∧ b < s3.heap.objs.size := fun b hb => by
    obtain ⟨o, e, _⟩ := T.obj _ _ st2 b hb
    have hlt := Heap.lt_size e
    refine ⟨⟨?_, (f2 b hb).2⟩, by rw [h3, Heap.size_push]; exact Nat.lt_succ_of_lt hlt⟩
    rw [upd_ne (by rw [← hD]; exact Nat.ne_of_lt hlt)]
    exact (f2 b hb).1
  have st3 : tn 0 s3.heap := T.keep _ _ _ st2 fun b _ o e => by rw [h3]; exact Heap.get?_push_of_some _ e
  have I4 := block_start I3 ok hN f3
  have nfp : ∀ b ∈ fp, (upd H2 D (SeO X.prog X.w D [])) b = none := fun b hb => (f3 b hb).1.1
  generalize hH3 : upd H2 D (SeO X.prog X.w D []) = H3 at I3 I4 w0 nfp f3
  generalize hcl : cellsFrom (s3.heap.objs.size + 1) scope.names (cloFrom X.env.cells scope.names []) = cl at I4
  have pg := hg s3 H3 s3.heap.objs.size cl fp
  have pi1 := hi1 s3 H3 s3.heap.objs.size cl fp
  have pg1 := hg1 s3 H3 s3.heap.objs.size cl fp
  have pe := he s3 H3 s3.heap.objs.size cl fp
  show codeAny _ _ (.compStart (sc2 elt tg iter tg1 iter1 scope pos) 0 (.ref it) (.ref D) (compEnvC scope cl s3.heap.objs.size X.env)) (compPost (model X.prog X.w) X.A X.xe use Qf (.ref D) s3.heap.objs.size) { s3 with heap := pushCells (s3.heap.push { cls := .type "dict", data := .dict #[] }) scope.names }
  generalize hce : compEnvC scope cl s3.heap.objs.size X.env = ce at I4 pg pi1 pg1 pe ⊢
  have cL : ce.locals = s3.heap.objs.size := by subst hce; rfl
  generalize hs4 : ({ s3 with heap := pushCells (s3.heap.push { cls := .type "dict", data := .dict #[] }) scope.names } : Shared) = s4 at I4 ⊢
  have st4 : tn 0 s4.heap := T.keep _ _ _ st3 fun b _ o e => by rw [← hs4]; exact pushCells_keeps _ _ _ _ (Heap.get?_push_of_some _ e)
  let Y : Cx := X.blk s3 H3 scope ce fp
  have stat : ∀ {σ' : L2.St} {H' : Hp} {s' : Shared}, L2.Inv Y [] σ' H' s' → (∀ b ∈ fp, H' b = none) → ∀ b ∈ fp, FpOk Y [] H' b := fun {σ' H' s'} I' hn b hb =>
    ⟨hn b hb, (I'.ok.exf b hb).1, I'.ok.exfs b hb, .inl hb, fun x c e => (I'.ok.exf b hb).2 x c e, fun p hp => absurd (show p ∈ ([] : List (Addr × Obj)) ++ [] from hp) (by simp)⟩
  -- ahead of the first clause's turn i, with at most n turns to come
  let At : Nat → Shared → Prop := fun n s' => ∃ i H', L2.Inv Y [] (wipe σ (own.map (·.2))) H' s' ∧ tn i s'.heap ∧ (∀ b ∈ fp, H' b = none) ∧ W i n H'
  have loop : codeAny (model X.prog X.w) X.A (.compLoop (sc2 elt tg iter tg1 iter1 scope pos) 0 (.ref it) (.ref D) ce) (compPost (model X.prog X.w) X.A X.xe use Qf (.ref D) s3.heap.objs.size) s4 := by
    refine loop_first (hs1 ce) At ?_ m0 ⟨0, H3, I4, st4, nfp, w0⟩
    rintro n s5 ⟨i, H5, I5, st5, n5, w5⟩
    rcases turn i n H5 w5 with ⟨stop, qq⟩ | ⟨go, Nx, hNx, step⟩
    · refine thnF (T.done Y rfl rfl rfl hc i [] s5 _ H5 (fun _ _ => False) I5 (stat I5 n5) st5 stop) fun r s6 ⟨hr, I6⟩ => ?_
      subst hr
      have I7 : L2.Inv X pins σ H5 s6 := I3.call' (ch := fp) I6.os I6.base I6.hok I6.bare fun b hb => ⟨(f3 b hb).1.2.2.2.1, (f3 b hb).1.2.1, (f3 b hb).1.2.2.2.2.1, (f3 b hb).1.2.2.2.2.2⟩
      have nC : H5 s3.heap.objs.size = none := cL ▸ (show H5 ce.locals = none from I6.free)
      obtain ⟨m, hn, _⟩ := I6.loc
      have hn' : s6.heap.Ns s3.heap.objs.size m := cL ▸ (show s6.heap.Ns ce.locals m from hn)
      exact hRR D s3.heap.objs.size s6 m H5 I7 qq hn' (I3.fpOk (Nat.le_refl _) nC)
    · refine thnF (T.item Y rfl rfl rfl hc i [] s5 _ H5 (fun _ _ => False) I5 (stat I5 n5) st5 go) fun r s6 ⟨u, hr, h6⟩ => ?_
      subst hr
      refine thnF h6 fun _ s7 ⟨x, H7, I7, r7, y7, st7, n7⟩ => ?_
      refine thnF (pg.run _ s7 _ H7 x u _ (I7.pinned (stat I7 n7) (T.obj _ _ st7)) r7 (step x H7 y7)) fun _ s8 ⟨σ8, H8, I8, hw8, q8⟩ => ?_
      have kept : ∀ {pp : List (Addr × Obj)} {σ9 : L2.St} {s' : Shared} {H' : Hp}, L2.Inv Y (pp ++ pinsAt fp s7.heap) σ9 H' s' → ∀ b ∈ fp, ∀ o, s7.heap.get? b = some o → s'.heap.get? b = some o ∧ H' b = none := fun {pp σ9 s' H'} I' b hb o e =>
        let z := I'.pin (b, o) (List.mem_append_right _ (List.mem_append_right _ (mem_pinsAt hb e)))
        ⟨z.1, z.2.1⟩
      -- the end of this turn
      have fin : ∀ {s' : Shared} {H' : Hp}, L2.Inv Y ([] ++ pinsAt fp s7.heap) (wipe σ8 vs1) H' s' → Nx H' → ∃ m, m < n ∧ At m s' := fun {s' H'} I' nx => by
        obtain ⟨m', hm, w'⟩ := hNx H' nx
        refine ⟨m', hm, i + 1, H', (I'.unpinned (pins := [])).weak ?_ (fun j v e => ?_), T.keep _ _ _ st7 fun b hb o e => (kept I' b hb o e).1, fun b hb => ?_, w'⟩
        · rw [← hw8, wipe_length, wipe_length]
        · rw [← hw8] at e
          obtain ⟨e1, e2⟩ := wipe_some e
          rw [wipe_out fun z => e2 (hv j z)]
          exact e1
        · obtain ⟨o, e, _⟩ := T.obj _ _ st7 b hb
          exact (kept I' b hb o e).2
      refine thnF (pi1.run _ s8 σ8 H8 _ I8 q8) fun xv s10 hx => thnF hx fun itv s11 h11 => ?_
      obtain ⟨it1, fp1, tn1, J1, H11, rfl, I11, T1, st11, f11, W1, ⟨m1, w1⟩, turn1⟩ := h11
      have stat1 : ∀ {H' : Hp}, (∀ b ∈ fp1, H' b = none) → ∀ b ∈ fp1, FpOk Y ([] ++ pinsAt fp s7.heap) H' b := fun hn b hb => ⟨hn b hb, (f11 b hb).2⟩
      let In : Nat → Shared → Prop := fun k s' => ∃ j H', L2.Inv Y ([] ++ pinsAt fp s7.heap) (wipe σ8 vs1) H' s' ∧ tn1 j s'.heap ∧ (∀ b ∈ fp1, H' b = none) ∧ W1 j k H'
      have loop1 : codeAny (model X.prog X.w) X.A (.compLoop (sc2 elt tg iter tg1 iter1 scope pos) 1 (.ref it1) (.ref D) ce) (fun r s' => match r with
          | .ok _ => ∃ m, m < n ∧ At m s'
          | .error _ => False) s11 := by
        refine loop_second In ?_ m1 ⟨0, H11, I11.weak (wipe_length _ _) (fun j v e => (wipe_some e).1), st11, fun b hb => (f11 b hb).1, w1⟩
        rintro k s12 ⟨j, H12, I12, st12, n12, w12⟩
        rcases turn1 j k H12 w12 with ⟨stop1, nx1⟩ | ⟨go1, Nx1, hNx1, step1⟩
        · refine thnF (T1.done Y rfl rfl rfl hc j _ s12 (wipe σ8 vs1) H12 (fun _ _ => False) I12 (stat1 n12) st12 stop1) fun r s13 ⟨hr, I13⟩ => ?_
          subst hr
          exact fin I13 nx1
        · refine thnF (T1.item Y rfl rfl rfl hc j _ s12 (wipe σ8 vs1) H12 (fun _ _ => False) I12 (stat1 n12) st12 go1) fun r s13 ⟨u1, hr, h13⟩ => ?_
          subst hr
          refine thnF h13 fun _ s14 ⟨x1, H14, I14, r14, y14, st14, n14⟩ => ?_
          refine thnF (pg1.run _ s14 (wipe σ8 vs1) H14 x1 u1 _ (I14.pinned (stat1 n14) (T1.obj _ _ st14)) r14 (step1 x1 H14 y14)) fun _ s15 ⟨σ15, H15, I15, hw15, q15⟩ => ?_
          refine thnF (pe.run _ s15 σ15 H15 _ I15 q15) fun z s17 ⟨yv, H17, I17, r17, ks, kc, ey, hD17, hz17, nx⟩ => ?_
          subst ey
          refine addK_ok (X := Y) I17 hD17 r17 hz17 fun s18 I18 => ?_
          obtain ⟨m', hm, w'⟩ := hNx1 _ nx
          have pin' : ∀ b ∈ fp1, ∀ o, s14.heap.get? b = some o → s18.heap.get? b = some o ∧ (upd H17 D (SeO X.prog X.w D (ks ++ [kc]))) b = none := fun b hb o e =>
            let z := I18.pin (b, o) (List.mem_append_right _ (List.mem_append_right _ (mem_pinsAt hb e)))
            ⟨z.1, z.2.1⟩
          refine ⟨m', hm, j + 1, _, I18.unpinned.weak (by rw [← hw15, wipe_length]) (fun j v e => by rw [← hw15] at e; exact (wipe_some e).1), T1.keep _ _ _ st14 fun b hb o e => (pin' b hb o e).1, fun b hb => ?_, w'⟩
          obtain ⟨o, e, _⟩ := T1.obj _ _ st14 b hb
          exact (pin' b hb o e).2
      exact start_second loop1 (T1.self X.A 0 _ _ _ st11 loop1)
  exact codeAny_compStart_set loop (T.self X.A 0 _ _ _ st4 loop)
/-- name = {..} on one line, the name a local -/
theorem ps_setSc2 {i : Nat} {y : Str} {py spos : Pos} {elt tg iter tg1 iter1 : Expr} {scope : Scope} {own : List (Str × Nat)} {vs1 : List Nat} {pos : Pos} {wi wi1 : TI} {g g1 : TG} {te : TE} (hc : X.calm = true) (hN : X.N.Nodup) (hy : X.N[i]? = some y) (hyl : X.env.scope.names.lookup y = some .local)
    (hsw : swapsWith (sc2 elt tg iter tg1 iter1 scope pos) (some (.Name y py)) spos.line X.env = pure true) (hi : PI X tg iter wi) (ok : BlkOk X.N X.env.scope scope own) (hv : ∀ i ∈ vs1, i ∈ own.map (·.2))
    (hg : ∀ (s : Shared) (H : Hp) (C : Addr) (cl : List (Str × Addr)) (fp : List Addr), PG (X.blk s H scope (compEnvC scope cl C X.env) fp) tg g)
    (hi1 : ∀ (s : Shared) (H : Hp) (C : Addr) (cl : List (Str × Addr)) (fp : List Addr), PI (X.blk s H scope (compEnvC scope cl C X.env) fp) tg1 iter1 wi1)
    (hg1 : ∀ (s : Shared) (H : Hp) (C : Addr) (cl : List (Str × Addr)) (fp : List Addr), PG (X.blk s H scope (compEnvC scope cl C X.env) fp) tg1 g1)
    (he : ∀ (s : Shared) (H : Hp) (C : Addr) (cl : List (Str × Addr)) (fp : List Addr), PE (X.blk s H scope (compEnvC scope cl C X.env) fp) elt te)
    (hs : ∀ x, foldedSetIterable iter X.env x = pure x := by intro _; rfl) (hs1 : ∀ env x, foldedSetIterable iter1 env x = pure x := by intro _ _; rfl) :
    PS X (.Assign [.Name y py] (sc2 elt tg iter tg1 iter1 scope pos) spos) (tAsg (tSc2 X.prog X.w wi g wi1 g1 te (own.map (·.2)) vs1) (gName i)) := by
  refine ⟨fun pins s σ H D I h => ?_⟩
  rw [exec_Assign_Name_used _ _ _ _ hsw]
  refine wpAny_bind (wpAny_standAt (wpAny_bind ?_))
  show wpAny _ X.A (do let _ ← comprehension (sc2 elt tg iter tg1 iter1 scope pos) scope X.env (firstIterPos [⟨tg, iter, [], 0⟩, ⟨tg1, iter1, [], 0⟩] pos) (newSet (.type "set")) false (eval iter X.env) (some (assign (.Name y py) X.env))) _ _ s
  have h : tSc2 X.prog X.w wi g wi1 g1 te (own.map (·.2)) vs1 σ H (fun x H1 => gName i x σ H1 D.nx) := h
  refine wpAny_bind (thn (sc2_core (Qf := fun _ s' => SP X pins D .next s') hc hN I hi ok hv hg hi1 hg1 he hs hs1 h fun L C s' m H' I' q hn f => ?_) fun _ s' hq => wpAny_pure (wpAny_pure hq))
  show wpAny _ _ (assign (.Name y py) X.env (.ref L)) _ _ _
  refine wpAny_assign_Name (store_ok2 (v := V.ref L) I' hN hy (.inl hyl) rfl (fun s2 I2 ⟨a, sb, ha⟩ => ?_) (.inr hyl))
  obtain ⟨f0, f1, f2, f3, f4, f5⟩ := f
  have haC : C ≠ a := ha.elim (fun z => by rw [z]; exact f1) fun z e => f4 y a z e.symm
  exact ⟨m, hn.sameBut sb haC, fun h3 sb3 => ⟨_, H', I2.turned (t' := s2.toks) (fun b o hb e => (sb3.2 b hb).trans e) f0 f1 f3 f4 f5, q⟩⟩
end
end Dl

set_option Elab.async false
set_option linter.all false
set_option maxRecDepth 100000
set_option maxHeartbeats 4000000
namespace Dl
open PySem L2 PyProof.Rows PpSet
/-! ### x = {e for .. in .. for .. in ..}; return len(x) < b -/
def scIn (g1 : D → En → Res En) (e : En → Res (D × En)) (vs1 : List Nat) : List D → En → List Key → Res (List Key × En)
  | [], r, acc => .ok (acc, r)
  | d :: ds, r, acc => (noX (g1 d r)).bind fun r1 => (noX (e r1)).bind fun q => match keyD q.1 with
    | some k => if acc.length < 1000 then scIn g1 e vs1 ds (wipeE q.2 vs1) (acc ++ [k]) else .bad
    | none => .bad
def scOut (g : D → En → Res En) (s1 : En → Res (List D × En)) (g1 : D → En → Res En) (e : En → Res (D × En)) (vs vs1 : List Nat) : List D → En → List Key → Res (List Key × En)
  | [], r, acc => .ok (acc, r)
  | d :: ds, r, acc => (noX (g d r)).bind fun r1 => (noX (s1 r1)).bind fun p => (noX (scIn g1 e vs1 p.1 (wipeE p.2 vs1) acc)).bind fun q => scOut g s1 g1 e vs vs1 ds (wipeE q.2 vs) q.1
def eSc2 (s : En → Res (List D × En)) (g : D → En → Res En) (s1 : En → Res (List D × En)) (g1 : D → En → Res En) (e : En → Res (D × En)) (vs vs1 : List Nat) : En → Res (List Key × En) := fun r =>
  (s r).bind fun p => (noX (scOut g s1 g1 e vs vs1 p.1 (wipeE p.2 vs) [])).bind fun q => .ok (q.1, restore p.2 vs q.2)
/-- the value is the set of the keys -/
def rS (P : Program) (w : World) : RR (List Key) V := fun _ _ _ _ H ks v => ∃ a, v = .ref a ∧ H a = some (SeO P w a ks)
theorem wipe_sub {vs vs1 : List Nat} (hv : ∀ i ∈ vs1, i ∈ vs) (σ : L2.St) : wipe (wipe σ vs1) vs = wipe σ vs := by
  refine List.ext_getElem? fun i => ?_
  by_cases q : i ∈ vs
  · rw [wipe_get vs, wipe_get vs, if_pos q, if_pos q, wipe_length]
  · rw [wipe_get vs, wipe_get vs, if_neg q, if_neg q, wipe_get vs1, if_neg fun z => q (hv i z)]
theorem sc2_ent {K : PySem.W.Frag} {mg : Str → Option Value} {W : WX} {P : Program} {w : World} {wi : TI} {s : En → Res (List D × En)} {vs vs1 : List Nat} {g : D → En → Res En} {s1 : En → Res (List D × En)} {g1 : D → En → Res En} {e : En → Res (D × En)} (hv : ∀ i ∈ vs1, i ∈ vs) (hi : Ent K mg W (rI K mg) wi s) :
    Ent K mg W (rS P w) (tSc2 P w wi (tOfG K mg W0 vs g) (tOf K mg W0 (rI K mg) s1) (tOfG K mg W0 vs1 g1) (tOf K mg W0 (rE K mg) e) vs vs1) (eSc2 s g s1 g1 e vs vs1) := by
  intro B F H r σ Q R p
  refine hi.to R p fun ds r1 J F1 H1 R1 s1' wk p1 => ?_
  intro Dl hD
  obtain ⟨nB, nb⟩ := R1.new_ne hD
  have fD : F1 Dl = none := R1.fh.free hD
  have bF : B.F Dl = none := R1.f0.free fD
  refine ⟨fun i m H' => m = ds.length - i ∧ i ≤ ds.length ∧ ∃ F' r0 acc, Rel K mg B F' H' (wipeE r0 vs) (wipe σ vs) ∧ Same F1 F' ∧ H' Dl = some (SeO P w Dl acc) ∧ F' Dl = none ∧ Loose H' (wipeE r0 vs) (wipe σ vs) Dl ∧
      Po K mg W B F' σ (rS P w) Q ((noX (scOut g s1 g1 e vs vs1 (ds.drop i) (wipeE r0 vs) acc)).bind fun q => .ok (q.1, restore r1 vs q.2)), ⟨ds.length, by simp, Nat.zero_le _, F1, r1, [], (R1.newO hD).wipe vs, Same.refl F1, upd_same, fD, (R1.wipe vs).loose_new hD, by simpa using p1⟩, ?_⟩
  rintro i m H' ⟨rfl, hle, F', r0, acc, R', s', hH, hF, hl, p'⟩
  obtain ⟨w1, w2⟩ := wk F' H' s' R'.fh
  by_cases hlt : i < ds.length
  · obtain ⟨go, yl⟩ := w1 i _ (List.getElem?_eq_getElem hlt)
    rw [List.drop_eq_getElem_cons hlt] at p'
    refine .inr ⟨go, fun H2 => ∃ F2 r2 acc2, Rel K mg B F2 H2 (wipeE r2 vs) (wipe σ vs) ∧ Same F1 F2 ∧ H2 Dl = some (SeO P w Dl acc2) ∧ F2 Dl = none ∧ Loose H2 (wipeE r2 vs) (wipe σ vs) Dl ∧
      Po K mg W B F2 σ (rS P w) Q ((noX (scOut g s1 g1 e vs vs1 (ds.drop (i + 1)) (wipeE r2 vs) acc2)).bind fun q => .ok (q.1, restore r1 vs q.2)), fun H2 ⟨F2, r2, acc2, h2⟩ => ⟨ds.length - (i + 1), by omega, rfl, hlt, F2, r2, acc2, h2⟩, fun x H'' y => ?_⟩
    obtain ⟨F'', f1, f2, f3, f4, f5⟩ := yl x H'' y
    have p2 := Po.weak p' f1
    unfold scOut at p2
    refine ⟨_, F'', wipeE r0 vs, ds[i], (R'.guard hH hF nB nb hl).grow f2 f1 f3 f4, f5, ?_⟩
    rcases noX_cases (g ds[i] (wipeE r0 vs)) with ⟨r2, q1, q2⟩ | q2
    · rw [q1]
      simp only [q2, bind_ok] at p2
      intro σ2 F2 H2 R2 s2 off2
      have z2 : wipe σ2 vs = wipe σ vs := by rw [Off.wipe off2]; exact Off.wipe off_wipe
      refine ⟨z2, _, F2, r2, R2, ?_⟩
      have p3 := Po.weak p2 s2
      rcases noX_cases (s1 r2) with ⟨⟨ds1, r3⟩, q3, q4⟩ | q4
      · rw [q3]
        simp only [q4, bind_ok] at p3
        intro J1 F3 H3 R3 s3 wk1
        have p4 := Po.weak p3 s3
        obtain ⟨R4, hH4, hF4, hl4⟩ := R3.unguard nB nb bF
        -- the second clause
        have sAll := ((s'.trans f1).trans s2).trans s3
        refine ⟨fun j k H5 => k = ds1.length - j ∧ j ≤ ds1.length ∧ ∃ F5 r5 acc5, Rel K mg B F5 H5 (wipeE r5 vs1) (wipe σ2 vs1) ∧ Same F3 F5 ∧ H5 Dl = some (SeO P w Dl acc5) ∧ F5 Dl = none ∧ Loose H5 (wipeE r5 vs1) (wipe σ2 vs1) Dl ∧
          Po K mg W B F5 σ (rS P w) Q (((noX (scIn g1 e vs1 (ds1.drop j) (wipeE r5 vs1) acc5)).bind fun q => noX (scOut g s1 g1 e vs vs1 (ds.drop (i + 1)) (wipeE q.2 vs) q.1)).bind fun q => .ok (q.1, restore r1 vs q.2)), ⟨ds1.length, by simp, Nat.zero_le _, F3, r3, acc, R4.wipe vs1, Same.refl F3, hH4, hF4, ?_, ?_⟩, ?_⟩
        · have Rg4 := R3.wipe vs1
          exact (Rg4.unguard nB nb bF).2.2.2
        · rw [List.drop_zero]
          have e1 : (noX ((noX (scIn g1 e vs1 ds1 (wipeE r3 vs1) acc)).bind fun q => scOut g s1 g1 e vs vs1 (ds.drop (i + 1)) (wipeE q.2 vs) q.1)) = (noX (scIn g1 e vs1 ds1 (wipeE r3 vs1) acc)).bind fun q => noX (scOut g s1 g1 e vs vs1 (ds.drop (i + 1)) (wipeE q.2 vs) q.1) := by
            cases scIn g1 e vs1 ds1 (wipeE r3 vs1) acc <;> rfl
          rw [e1] at p4
          exact p4
        · rintro j k H5 ⟨rfl, hj, F5, r5, acc5, R5, s5, hH5, hF5, hl5, p5⟩
          obtain ⟨w3, w4⟩ := wk1 F5 H5 s5 R5.fh
          by_cases hjl : j < ds1.length
          · obtain ⟨go1, yl1⟩ := w3 j _ (List.getElem?_eq_getElem hjl)
            rw [List.drop_eq_getElem_cons hjl] at p5
            refine .inr ⟨go1, fun H6 => ∃ F6 r6 acc6, Rel K mg B F6 H6 (wipeE r6 vs1) (wipe σ2 vs1) ∧ Same F3 F6 ∧ H6 Dl = some (SeO P w Dl acc6) ∧ F6 Dl = none ∧ Loose H6 (wipeE r6 vs1) (wipe σ2 vs1) Dl ∧
              Po K mg W B F6 σ (rS P w) Q (((noX (scIn g1 e vs1 (ds1.drop (j + 1)) (wipeE r6 vs1) acc6)).bind fun q => noX (scOut g s1 g1 e vs vs1 (ds.drop (i + 1)) (wipeE q.2 vs) q.1)).bind fun q => .ok (q.1, restore r1 vs q.2)), fun H6 ⟨F6, r6, acc6, h6⟩ => ⟨ds1.length - (j + 1), by omega, rfl, hjl, F6, r6, acc6, h6⟩, fun x1 H7 y1 => ?_⟩
            obtain ⟨F7, k1, k2, k3, k4, k5⟩ := yl1 x1 H7 y1
            have p6 := Po.weak p5 k1
            unfold scIn at p6
            refine ⟨_, F7, wipeE r5 vs1, ds1[j], (R5.guard hH5 hF5 nB nb hl5).grow k2 k1 k3 k4, k5, ?_⟩
            rcases noX_cases (g1 ds1[j] (wipeE r5 vs1)) with ⟨r8, v1, v2⟩ | v2
            · rw [v1]
              simp only [v2, bind_ok] at p6
              intro σ8 F8 H8 R8 s8 off8
              have z8 : wipe σ8 vs1 = wipe σ2 vs1 := by rw [Off.wipe off8]; exact Off.wipe off_wipe
              refine ⟨z8, _, F8, r8, R8, ?_⟩
              have p7 := Po.weak p6 s8
              rcases noX_cases (e r8) with ⟨⟨d9, r9⟩, v3, v4⟩ | v4
              · rw [v3]
                simp only [v4, bind_ok] at p7
                intro v F9 H9 R9 s9 x9
                have p8 := Po.weak p7 s9
                cases hkd : keyD d9 with
                | none =>
                  simp only [hkd] at p8
                  exact p8.elim
                | some key =>
                  simp only [hkd] at p8
                  by_cases hz : acc5.length < 1000
                  · simp only [if_pos hz] at p8
                    obtain ⟨Ra, hHa, hFa, hla⟩ := R9.unguard nB nb bF
                    have ev : v = kV key := keyD_rep hkd (vw_of R9.fh _ _ x9)
                    have sb : acc5.length + 1 < scanBound := by unfold scanBound; omega
                    refine ⟨acc5, key, ev, hHa, sb, F9, r9, acc5 ++ [key], ?_, ((s5.trans k1).trans s8).trans s9, upd_same, hFa, ?_, p8⟩
                    · have z := (Ra.poke (o' := SeO P w Dl (acc5 ++ [key])) hFa nB nb hla).wipe vs1
                      rw [z8] at z
                      exact z
                    · have Rg := R9.wipe vs1
                      rw [z8] at Rg
                      exact (Rg.unguard nB nb bF).2.2.2.poke
                  · simp only [if_neg hz] at p8
                    exact p8.elim
              · simp only [v4, bind_bad] at p7
                exact p7.elim
            · simp only [v2, bind_bad] at p6
              exact p6.elim
          · have ej : j = ds1.length := by omega
            subst ej
            rw [List.drop_length] at p5
            have p6 : Po K mg W B F5 σ (rS P w) Q ((noX (scOut g s1 g1 e vs vs1 (ds.drop (i + 1)) (wipeE (wipeE r5 vs1) vs) acc5)).bind fun q => .ok (q.1, restore r1 vs q.2)) := p5
            refine .inl ⟨w4, F5, wipeE r5 vs1, acc5, ?_, sAll.trans s5, hH5, hF5, ?_, p6⟩
            · have z := R5.wipe vs
              rw [wipe_sub hv, z2] at z
              exact z
            · have Rg := (R5.guard hH5 hF5 nB nb hl5).wipe vs
              rw [wipe_sub hv, z2] at Rg
              exact (Rg.unguard nB nb bF).2.2.2
      · simp only [q4, bind_bad] at p3
        exact p3.elim
    · simp only [q2, bind_bad] at p2
      exact p2.elim
  · have ei : i = ds.length := by omega
    subst ei
    rw [List.drop_length] at p'
    have p2 : Po K mg W B F' σ (rS P w) Q (.ok (acc, restore r1 vs (wipeE r0 vs))) := p'
    exact .inl ⟨w2, p2 _ F' H' (Rel.restore R1 s' vs _ R'.unwipe) (Same.refl F') ⟨Dl, rfl, hH⟩⟩
end Dl

set_option Elab.async false
set_option linter.all false
set_option maxRecDepth 100000
set_option maxHeartbeats 4000000
namespace Dl
open PySem L2 PyProof.Rows PpSet
def sSetLt (i : Nat) (sc : En → Res (List Key × En)) (fb : En → Res (D × En)) : En → SR := fun r => sBind (sc r) fun p => if i < p.2.length then sBind (fb (p.2.set i none)) fun q => (match q.1 with
  | .int m => .rt (.bl (decide (((dedL p.1).length : Int) < m))) q.2
  | _ => .bad) else .bad
section
variable {X : Cx} {W : WX}
def rLenS (P : Program) (w : World) : List V → Hp → VK → Prop := fun xs H Q => ∃ (a : Addr) (ks : List Key), xs = [.ref a] ∧ H a = some (SeO P w a ks) ∧ Q (.int (dedL ks).length) H
theorem call_lenS : CallR X (.builtin "len") (rLenS X.prog X.w) := by
  intro pins s σ H xs us Q I r h
  obtain ⟨a, ks, rfl, ha, q⟩ := h
  obtain ⟨u, rfl, rx⟩ := vals1 r
  cases rx
  obtain ⟨o, es, ep, tb, ho, hex, hd, _, _, hb, hf, hn⟩ := seO_get I ha
  refine call_len_set ho hex hd hf (by unfold scanBound at hb; omega) ?_
  rw [hn]
  exact ⟨.int _, H, I.tok _, ⟨_, rfl⟩, q⟩
/-- y = {e for tg in iter for tg1 in iter1}; return len(y) < b -/
theorem dss_setLt {i : Nat} {y : Str} {py spos p1 p2 p3 p4 p5 : Pos} {elt tg iter tg1 iter1 b : Expr} {scope : Scope} {own : List (Str × Nat)} {vs1 : List Nat} {pos : Pos} {s : En → Res (List D × En)} {g : D → En → Res En} {s1 : En → Res (List D × En)} {g1 : D → En → Res En} {e fb : En → Res (D × En)} (hc : X.calm = true) (hN : X.N.Nodup)
    (hi : DI X W tg iter s) (ok : BlkOk X.N X.env.scope scope own) (hv : ∀ i ∈ vs1, i ∈ own.map (·.2))
    (hg : ∀ (s : Shared) (H : Hp) (C : Addr) (cl : List (Str × Addr)) (fp : List Addr), DG (X.blk s H scope (compEnvC scope cl C X.env) fp) W0 tg (own.map (·.2)) g)
    (hi1 : ∀ (s : Shared) (H : Hp) (C : Addr) (cl : List (Str × Addr)) (fp : List Addr), DI (X.blk s H scope (compEnvC scope cl C X.env) fp) W0 tg1 iter1 s1)
    (hg1 : ∀ (s : Shared) (H : Hp) (C : Addr) (cl : List (Str × Addr)) (fp : List Addr), DG (X.blk s H scope (compEnvC scope cl C X.env) fp) W0 tg1 vs1 g1)
    (he : ∀ (s : Shared) (H : Hp) (C : Addr) (cl : List (Str × Addr)) (fp : List Addr), DE (X.blk s H scope (compEnvC scope cl C X.env) fp) W0 elt e)
    (ml : X.mg "len" = none) (hb : DE X W b fb)
    (hsw : swapsWith (sc2 elt tg iter tg1 iter1 scope pos) (some (.Name y py)) spos.line X.env = pure true) (hy : X.N[i]? = some y := by rfl) (hyl : X.env.scope.names.lookup y = some .local := by rfl)
    (gl : Gl X "len" := by rfl) (hyd : (y == ("__debug__" : Str)) = false := by decide) (hcd : (y == ("__classdict__" : Str)) = false := by decide)
    (hm : behindInMarks .Lt b = false := by first | exact nomark _ | rfl)
    (hst : starEach [.Name y p2] X.env = (false, eval (.Name y p2) X.env) :: starEach [] X.env := by rfl)
    (hs : ∀ x, foldedSetIterable iter X.env x = pure x := by intro _; rfl) (hs1 : ∀ env x, foldedSetIterable iter1 env x = pure x := by intro _ _; rfl) :
    DSs X W [.Assign [.Name y py] (sc2 elt tg iter tg1 iter1 scope pos) spos, .Return (some (.Compare (.Call (.Name "len" p1) [.Name y p2] [] p3) [.Lt] [b] p4)) p5] (sSetLt i (eSc2 s g s1 g1 e (own.map (·.2)) vs1) fb) := by
  obtain ⟨ti, pi, ei⟩ := hi.ex
  obtain ⟨tb, pb, eb⟩ := hb.ex
  have pl := pe_callB (pos := p3) (p := p1) (x := "len") (call_lenS (X := X)) gl ml boot_len (pa_cons (pe_var (pos := p2) hy (.inl hyl) hyd hcd) pa_nil hst) (by decide) (by decide) hst rfl
  have pc : PC X .Lt (.Call (.Name "len" p1) [.Name y p2] [] p3) b (tOp (rI0 fun i j => .bl (decide (i < j))) (tCB (rLenS X.prog X.w) (tCons (tVar i) tNil)) tb) :=
    ⟨fun pins s σ H Q I h => bin pl pb I h fun v u s2 x y H2 I2 rx ry q => op_lt pins s2 σ H2 x y v u Q I2 rx ry q⟩
  refine ⟨_, pss_cons (ps_setSc2 (g := tOfG X.K X.mg W0 (own.map (·.2)) g) (wi1 := tOf X.K X.mg W0 (rI X.K X.mg) s1) (g1 := tOfG X.K X.mg W0 vs1 g1) (te := tOf X.K X.mg W0 (rE X.K X.mg) e) hc hN hy hyl hsw pi ok hv (fun a b c d e => (hg a b c d e).can) (fun a b c d e => (hi1 a b c d e).can) (fun a b c d e => (hg1 a b c d e).can) (fun a b c d e => (he a b c d e).can) hs hs1) (pss_one (ps_ret (pe_cmp pc hm))), fun B F H r σ Z R p => ?_⟩
  show tSc2 X.prog X.w ti _ _ _ _ _ vs1 σ H (fun v H1 => tRet (tOp (rI0 fun i j => .bl (decide (i < j))) (tCB (rLenS X.prog X.w) (tCons (tVar i) tNil)) tb) Z (σ.set i (some v)) H1)
  refine (sc2_ent (P := X.prog) (w := X.w) hv ei).toS R p fun ks r' v F' H' R' s' x q => ?_
  obtain ⟨a, rfl, hS⟩ := x
  have R2 : Rel X.K X.mg B F' H' (r'.set i none) (σ.set i (some (.ref a))) := R'.drop
  by_cases hlen' : i < r'.length
  rotate_left
  · simp only [if_neg hlen'] at q
    exact q.elim
  simp only [if_pos hlen'] at q
  have hlen : i < σ.length := by rw [← R'.len]; exact hlen'
  have hsl : (σ.set i (some (.ref a)))[i]? = some (some (V.ref a)) := by rw [get_set, if_pos rfl, if_pos hlen]
  show tCB (rLenS X.prog X.w) (tCons (tVar i) tNil) (σ.set i (some (.ref a))) H' _
  refine ⟨_, hsl, a, ks, rfl, hS, eb.toS R2 q fun d r2 w F2 H2 R3 s3 x3 q3 => ?_⟩
  cases d with
  | int m =>
    cases x3
    exact ⟨_, _, rfl, rfl, q3 _ _ F2 H2 R3 (Same.refl F2) rfl⟩
  | _ => exact q3.elim
end
end Dl

set_option Elab.async false
set_option linter.all false
set_option maxRecDepth 100000
set_option maxHeartbeats 4000000
namespace Dl
open PySem L2
section
variable {prog : Program} {w : World} {A : Around} {E : Value → Shared → Prop} {s : Shared}
theorem call_setKT {l : Addr} {items : Array Value} {val : Nat → Key} {Q : Value → Shared → Prop} (hh : A.handled = none) (hl : s.heap.IsTuple l items) (hi : ∀ (i : Nat) (v : Value), items[i]? = some v → (mixKind prog w).is (val i) v = true) (hb : items.size + 1 < scanBound)
    (h : ∀ (h' : Heap) (tk : Nat), h'.SetOf (mixKind prog w) s.heap.objs.size (memS (metS val items.size)) (metS val items.size).length →
      (∀ b o, b < s.heap.objs.size → s.heap.get? b = some o → h'.get? b = some o) → Q (.ref s.heap.objs.size) { s with heap := h', toks := tk }) :
    wpAny (model prog w) A (call (.type "set") [.ref l]) Q E s := by
  obtain ⟨c, tl, hmro⟩ := PySem.F.called_set.mro
  have hmade := PySem.F.called_set.made
  have hsub := PySem.F.called_set.sub
  refine wpAny_call (codeAny_of_tree ?_)
  show wpAny _ _ (callAny (.type "set") _) _ _ _
  refine wpAny_pure ⟨Code.quiet_builtin _ (by decide +kernel), codeAny_builtin PySem.F.entry_type_call ?_⟩
  rw [Around.under_plain (weight_type_call_type "set" [.ref l] []) rfl]
  have h1 := PySem.F.called_set.notType
  have h2 := PySem.F.called_set.canCreate
  have hct := PySem.F.typeCall_set_1 (.ref l)
  repeat (any_goals (first | assumption | wp_step))
  refine codeAny_mono (code_set_new_1 (.ref l) (E := E) (Q₁ := fun obj s₁ => ∃ led : Bool, obj = .ref s.heap.objs.size ∧ s₁ = { s with heap := s.heap.push { cls := .type "set", dict := none, data := .set #[] 0 (.fresh 0 0 led) } }) fun led => ⟨led, rfl, rfl⟩) fun r s₁ hr => ?_
  cases r with
  | error e => exact hr
  | ok fl =>
    cases fl with
    | ret obj =>
      obtain ⟨led, rfl, rfl⟩ := hr
      have hS : (s.heap.push { cls := .type "set", dict := none, data := .set #[] 0 (.fresh 0 0 led) }).get? s.heap.objs.size = some { cls := .type "set", dict := none, data := .set #[] 0 (.fresh 0 0 led) } := Heap.get?_push_size _ rfl
      have hT : Shared.TypeIs { s with heap := s.heap.push { cls := .type "set", dict := none, data := .set #[] 0 (.fresh 0 0 led) } } (.ref s.heap.objs.size) "set" := ⟨_, hS, rfl⟩
      have hli := PySem.F.called_set.init.lookup
      have hbi := PySem.F.called_set.init.bind (.ref s.heap.objs.size)
      repeat (any_goals (first | assumption | wp_step))
      refine codeAny_mono (codeAny_call_builtin (R := wants (fun r s₂ => r = .none ∧ ∃ h' tk, s₂ = { s with heap := h', toks := tk } ∧
          h'.SetOf (mixKind prog w) s.heap.objs.size (memS (metS val items.size)) (metS val items.size).length ∧
          (∀ b o, b < s.heap.objs.size → s.heap.get? b = some o → h'.get? b = some o)) E) PySem.F.called_set.init.plain PySem.F.entry_set_init (check_set_init_1 hT ?_)) fun r₂ s₂ hr₂ => ?_
      · obtain ⟨ol, hol, hcl, nl, hdl⟩ := hl
        obtain ⟨ocls, odict, odata, oslots⟩ := ol
        simp only at hcl hdl
        subst hcl; subst hdl
        have hol' : (s.heap.push { cls := .type "set", dict := none, data := .set #[] 0 (.fresh 0 0 led) }).get? l = some { cls := .type "tuple", dict := odict, data := .seq items nl, slots := oslots } := Heap.get?_push_of_some _ hol
        have hsls := PySem.F.sub_tuple_set
        have hslf := PySem.F.sub_tuple_frozenset
        have hne : (Value.type "tuple" == Value.type "dict") = false := by decide
        have hl1 : (s.heap.push { cls := .type "set", dict := none, data := .set #[] 0 (.fresh 0 0 led) }).IsTuple l items := ⟨_, hol', rfl, nl, rfl⟩
        unfold Builtin.«set.__init__» noKeywords Builtin.Frozenset.updateFrom
        generalize hPI : pyIter = PI
        wp_walk
        subst hPI
        refine wpAny_pyIter_tuple hl1 ?_
        refine wpAny_bind (wpAny_runValue ?_)
        have hlS : l < s.heap.objs.size := Heap.lt_size hol
        have hh3 : A.in1.in1.in1.handled = none := by simp [hh]
        have hneI : l ≠ (s.heap.push { cls := .type "set", dict := none, data := .set #[] 0 (.fresh 0 0 led) }).objs.size := by
          rw [Heap.size_push]; exact Nat.ne_of_lt (Nat.lt_succ_of_lt hlS)
        have hSf : s.heap.objs.size ∉ [(s.heap.push { cls := .type "set", dict := none, data := .set #[] 0 (.fresh 0 0 led) }).objs.size, l] := by
          rw [Heap.size_push]; simp only [List.mem_cons, List.mem_singleton, List.not_mem_nil, or_false, not_or]
          exact ⟨Nat.ne_of_lt (Nat.lt_succ_self _), Nat.ne_of_gt hlS⟩
        refine code_updateK ((Walks.tuple hh3 _ l hneI items).toS) s.heap.objs.size hSf val hi hb (items.size - 0) 0 _ (by omega) (Nat.zero_le _)
          ⟨⟨_, Heap.get?_push_size _ rfl, rfl, rfl⟩, (hl1.push _)⟩ ?hS0 ?hR
        case hS0 =>
          have hget : ((s.heap.push { cls := .type "set", dict := none, data := .set #[] 0 (.fresh 0 0 led) }).push { cls := .type "tuple_iterator", data := .fields #[.ref l, .int 0 0] }).get? s.heap.objs.size
              = some { cls := .type "set", dict := none, data := .set #[] 0 (.fresh 0 0 led) } := Heap.get?_push_of_some _ hS
          exact setOf_congr (set_at hget) (fun _ => rfl) rfl
        case hR =>
          intro s' hm hS'
          obtain ⟨h', g', d', tk', os'⟩ := s'
          have eg : g' = s.gens := hm.gens
          have ed : d' = s.drawn := hm.drawn
          have eo : os' = s.os := hm.os
          subst eg; subst ed; subst eo
          show wpAny _ _ _ _ _ _
          refine wpAny_pure ?_
          show wpAny _ _ (ret Value.none) _ _ _
          refine wpAny_pure ⟨rfl, h', tk', rfl, hS', fun b o hb e => ?_⟩
          have hb1 : b ≠ s.heap.objs.size := Nat.ne_of_lt hb
          have hb2 : b ≠ (s.heap.push { cls := .type "set", dict := none, data := .set #[] 0 (.fresh 0 0 led) }).objs.size := by
            rw [Heap.size_push]; exact Nat.ne_of_lt (Nat.lt_succ_of_lt hb)
          exact hm.heap b o (by simp only [List.mem_cons, List.mem_singleton, List.not_mem_nil, or_false, not_or]; exact ⟨hb1, hb2⟩) (Heap.get?_push_of_some _ (Heap.get?_push_of_some _ e))
      · cases r₂ with
        | error e => exact hr₂
        | ok fl₂ =>
          cases fl₂ with
          | ret r =>
            obtain ⟨rfl, h', tk, rfl, hS', hk'⟩ := hr₂
            repeat (any_goals (first | assumption | wp_step))
            exact h _ _ hS' hk'
          | next => exact False.elim hr₂
          | brk => exact False.elim hr₂
          | cont => exact False.elim hr₂
    | next => exact False.elim hr
    | brk => exact False.elim hr
    | cont => exact False.elim hr
end
end Dl

set_option Elab.async false
set_option linter.all false
set_option maxRecDepth 100000
set_option maxHeartbeats 4000000
namespace Dl
open PySem L2
/-! ### len(set(t)), t a tuple -/
def lenSetT : D → Option D
  | .tup ds => match keysD ds with
    | some ks => if ks.length ≤ 1000 then some (.int (ks.foldl dedS []).length) else none
    | none => none
  | _ => none
section
variable {X : Cx} {W : WX} {a b e e2 : Expr} {pos p pos2 p2 : Pos} {fa fb : En → Res (BV × En)} {k : Nat}
def rLenSetTL (X : Cx) : List V → Hp → VK → Prop := fun xs H Q => ∃ (l : Addr) (ks : List Key), xs = [.ref l] ∧ SqT X.K H l (ks.map kV) ∧ ks.length ≤ 1000 ∧ Q (.int (ks.foldl dedS []).length) H
def rLenSetT (X : Cx) : V → Hp → VK → Prop := fun v H Q => rLenSetTL X [v] H Q
theorem pe_lenSetT {t : TE} (hc : X.calm = true) (gl : Gl X "len") (ml : X.mg "len" = none) (gs : Gl X "set") (ms : X.mg "set" = none) (hp : PE X e t) (s1 : starEach [e] X.env = (false, eval e X.env) :: starEach [] X.env := by rfl)
    (s2 : starEach [.Call (.Name "set" p2) [e] [] pos2] X.env = (false, eval (.Call (.Name "set" p2) [e] [] pos2) X.env) :: starEach [] X.env := by rfl) : PE X (.Call (.Name "len" p) [.Call (.Name "set" p2) [e] [] pos2] [] pos) (tUn (rLenSetT X) t) := by
  refine ⟨fun pins s σ H Q I h => ?_⟩
  refine wpAny_Call_Name_kw (ld_blt I gl ml boot_len ?_)
  refine PyProof.Rows.callWith_builtin1 ?_ s2 rfl
  rw [s2]
  show wpAny _ _ (spliced ((false, eval _ X.env) :: backTo pos (starEach [] X.env))) _ _ s
  refine Calls.spliced_cons ?_
  refine wpAny_Call_Name_kw (ld_blt I gs ms PyProof.Rows.boot_set ?_)
  refine PyProof.Rows.callWith_type1 (thn ((pa_cons hp pa_nil s1).run pos2 pins s σ H (fun vs H1 => rLenSetTL X vs H1 Q) I ?_) fun us st ⟨vs, H1, I1, r1, q1⟩ => ?_) s1 rfl
  · exact h
  · obtain ⟨l, ks, rfl, sq, le, q⟩ := q1
    obtain ⟨u, rfl, rx⟩ := vals1 r1
    cases rx
    obtain ⟨its, rv, pl, hz⟩ := I1.tuple sq
    have hlen := rv.length
    rw [List.length_map] at hlen
    have hi : ∀ (i : Nat) (v : Value), its.toArray[i]? = some v → (mixKind X.prog X.w).is ((fun i => ks.getD i (.inl 0)) i) v = true := by
      intro i v e
      have e' : its[i]? = some v := by simpa using e
      have li : i < ks.length := by
        have := (List.getElem?_eq_some_iff.mp e').1
        omega
      have ek : ks[i]? = some ks[i] := List.getElem?_eq_getElem li
      obtain ⟨u, eu, rx⟩ := rv.get (i := i) (x := kV ks[i]) (by rw [List.getElem?_map, ek]; rfl)
      rw [e'] at eu
      cases eu
      have : ks.getD i (.inl 0) = ks[i] := by simp [List.getD, ek]
      simp only [this]
      exact kV_is rx
    have sz : its.toArray.size = ks.length := by simp [hlen]
    refine call_setKT (I1.ok.hd hc) pl hi (by rw [sz]; unfold scanBound; omega) fun h' tk hS kp => ?_
    refine Calls.spliced_nil ?_
    obtain ⟨o, es, ep, tb, ho, hex, hd, _, _, hb, hf, hn⟩ := hS
    have I2 : Inv X pins σ H1 { st with heap := h', toks := tk } := I1.kept (t' := tk) fun b o e => kp b o (Heap.lt_size e) e
    have en : es.size = (ks.foldl dedS []).length := by rw [hn, sz, metS_list]
    refine call_len_set ho hex hd hf (by unfold scanBound at hb; omega) ?_
    rw [en]
    exact ⟨.int _, H1, I2.tok _, ⟨_, rfl⟩, q⟩
theorem de_lenSetT {h : En → Res (D × En)} (hc : X.calm = true) (ml : X.mg "len" = none) (ms : X.mg "set" = none) (ha : DE X W e h) (gl : Gl X "len" := by rfl) (gs : Gl X "set" := by rfl) (s1 : starEach [e] X.env = (false, eval e X.env) :: starEach [] X.env := by rfl)
    (s2 : starEach [.Call (.Name "set" p2) [e] [] pos2] X.env = (false, eval (.Call (.Name "set" p2) [e] [] pos2) X.env) :: starEach [] X.env := by rfl) : DE X W (.Call (.Name "len" p) [.Call (.Name "set" p2) [e] [] pos2] [] pos) (eUn lenSetT (bOf h)) := by
  obtain ⟨t, hp, he⟩ := ha.ex
  refine ⟨_, pe_lenSetT hc gl ml gs ms hp s1 s2, un_entE he ?_⟩
  intro B F H r σ v x z Q R h1 h2 k
  unfold lenSetT at h2
  cases x with
  | tup ds =>
    cases e : keysD ds with
    | none => simp [e] at h2
    | some ks =>
      simp only [e] at h2
      split at h2
      · cases h2
        obtain ⟨l, xs, rfl, hH, rx⟩ := h1
        have := keysD_rep (Same.refl F) rx e
        subst this
        exact ⟨l, ks, rfl, sqT_mono R.fh hH, by assumption, k _ F H R (Same.refl F) rfl⟩
      · cases h2
  | _ => cases h2
theorem de_lenSetA {h : En → Res (D × En)} (hc : X.calm = true) (ml : X.mg "len" = none) (ms : X.mg "set" = none) (ha : DE X W e h) (gl : Gl X "len" := by rfl) (gs : Gl X "set" := by rfl) (s1 : starEach [e] X.env = (false, eval e X.env) :: starEach [] X.env := by rfl)
    (s2 : starEach [.Call (.Name "set" p2) [e] [] pos2] X.env = (false, eval (.Call (.Name "set" p2) [e] [] pos2) X.env) :: starEach [] X.env := by rfl) : DE X W (.Call (.Name "len" p) [.Call (.Name "set" p2) [e] [] pos2] [] pos) (eUn (orU lenSetD lenSetT) (bOf h)) :=
  (de_lenSet hc ml ms ha gl gs s1 s2).or1 (de_lenSetT hc ml ms ha gl gs s1 s2)
end
end Dl

set_option Elab.async false
set_option linter.all false
set_option maxRecDepth 100000
set_option maxHeartbeats 4000000
namespace Dl
open PySem L2
/-! ### y.extend(t), t a tuple -/
def rExtendT (K : PySem.W.Frag) : V → List V → Hp → VK → Prop := fun x vs H Q => ∃ l b xs zs, x = .ref l ∧ vs = [.ref b] ∧ H l = some (.lst xs) ∧ SqT K H b zs ∧ xs.length + zs.length ≤ sizeLine ∧ Q .non (upd H l (.lst (xs ++ zs)))
section
variable {X : Cx}
theorem mt_extendT : MtM X "list.extend" (rExtendT X.K) := by
  intro pins s σ H x vs v us Q I rx rv h
  obtain ⟨l, b, xs, zs, rfl, rfl, hH, hB, hz, q⟩ := h
  cases rx
  obtain ⟨u, rfl, ru⟩ := rv.one
  cases ru
  obtain ⟨z, its, n, r, hl, e⟩ := I.lstM hH
  obtain ⟨its2, r2, ⟨o2, e2, hc2, n2, hd2⟩, hz2⟩ := I.tuple hB
  have hl2 := r2.length
  have hsz : its.toArray.size + its2.toArray.size ≤ sizeLine := by rw [List.size_toArray, List.size_toArray]; omega
  have hlong : (!its.toArray.isEmpty && Builtin.List.listTooLong (its.toArray.size + its2.toArray.size)) = false := by rw [notLongL hsz, Bool.and_false]
  refine wpAny_call_entry PySem.F.slot_list_extend ⟨_, e, rfl⟩ PySem.F.entry_list_extend ?_ (PySem.F.args_list_extend_2 _ _)
  show wpAny _ _ (Builtin.List.listExtendWith (.ref l) (.ref b) .none) _ _ s
  unfold Builtin.List.listExtendWith
  refine wpAny_bind (wpAny_typeOf ⟨o2, e2, hc2⟩ ?_)
  have h1 : (Builtin.List.listSameRef (.ref l) (.ref b) || Value.type "tuple" == Value.type "list" || Value.type "tuple" == Value.type "tuple") = true := by simp
  simp only [h1, if_true]
  refine wpAny_bind ?_
  unfold Builtin.List.listItems
  refine wpAny_bind (wpAny_seqItems e2 hd2 (wpAny_pure ?_))
  refine wpAny_bind ?_
  refine wpAny_bind (wpAny_seqItems e rfl (wpAny_pure ?_))
  simp only [hlong, Bool.false_eq_true, if_false]
  show wpAny _ _ (updateSeq l (· ++ its2.toArray) >>= fun _ => ret Value.none) _ _ s
  refine wpAny_bind (wpAny_updateSeq e rfl ?_ (by rw [List.size_toArray]; omega) (by rw [Array.size_append]; omega))
  refine wpAny_pure ⟨_, rfl, .non, _, I.lset (f := (· ++ its2.toArray)) (its' := its ++ its2) (t' := s.toks) hH e (by simp) (r.append r2) ?_, rfl, q⟩
  rw [List.length_append]
  omega
end
def extT : D → D → Option D
  | .lst ds, .tup es => if ds.length + es.length < 100000 then some (.lst (ds ++ es)) else none
  | _, _ => none
def sExtendT (i : Nat) (f : En → Res (D × En)) : En → SR := fun r => atMineS r i fun s0 => match s0.d with
  | .lst _ => sBind (f r) fun p => atMineS p.2 i fun s => match extT s.d p.1 with
    | some z => .nx (p.2.set i (some (s.put z)))
    | none => .bad
  | _ => .bad
section
variable {X : Cx} {W : WX} {e : Expr} {y : Str} {i : Nat} {pos pos' apos q : Pos} {f : En → Res (D × En)}
theorem ds_extendT (hf : DE X W e f) (hN : X.N[i]? = some y := by rfl) (hv : Vis X.env.scope y := by first | exact Or.inl rfl | exact Or.inr (Or.inl rfl) | exact Or.inr (Or.inr rfl))
    (hyd : (y == ("__debug__" : Str)) = false := by decide) (hcd : (y == ("__classdict__" : Str)) = false := by decide)
    (hbase : attributeBase (.Name y q) "extend" X.env (eval (.Name y q) X.env) = eval (.Name y q) X.env := by rfl)
    (hfew : ((backTo pos' (starEach [e] X.env)).all (fun x => !x.1) && (backToKw pos' (keywordEach [] X.env)).all (fun x => x.1.isSome)
      && decide (([e] : List Expr).length + ([] : List Keyword).length + (if ([] : List Keyword).isEmpty then 0 else 1) < 30)) = true := by rfl)
    (hline : (apos.endLine == pos'.line) = true := by rfl) (hst : starEach [e] X.env = (false, eval e X.env) :: starEach [] X.env := by rfl)
    (hs : swapsWith (.Call (.Attribute (.Name y q) "extend" apos) [e] [] pos') none pos.line X.env = pure false := by rfl) :
    DS X W (.Expr (.Call (.Attribute (.Name y q) "extend" apos) [e] [] pos') pos) (sExtendT i f) := by
  obtain ⟨t, hp, he⟩ := hf.ex
  refine ⟨_, ps_expr (pe_bm PySem.F.plainAttrs_list PySem.F.slot_list_extend PySem.F.type_list_extend mt_extendT (pe_var hN hv hyd hcd) (pa_cons hp pa_nil hst) hbase hfew hline hst rfl) hs, fun B F H r σ Z R p => ?_⟩
  unfold sExtendT at p
  rcases atMineS_cases r i (fun s0 => match s0.d with
    | .lst _ => sBind (f r) fun p => atMineS p.2 i fun s => match extT s.d p.1 with
      | some z => .nx (p.2.set i (some (s.put z)))
      | none => .bad
    | _ => .bad) with z | ⟨s0, hs0, m0, z⟩
  · rw [z] at p
    exact p.elim
  · rw [z] at p
    obtain ⟨pa, e0, ho, _⟩ := R.mine_at hs0 m0
    cases hd0 : s0.d with
    | lst ds0 =>
      simp only [hd0] at p
      rw [hd0] at ho
      obtain ⟨xs0, hH0, _⟩ := ho
      refine ⟨_, e0, .inl ⟨rfl, _, SqL.of hH0⟩, he.toS R p fun d r1 v F1 H1 R1 s1 x1 p1 => ?_⟩
      rcases atMineS_cases r1 i (fun s => match extT s.d d with
        | some z => .nx (r1.set i (some (s.put z)))
        | none => .bad) with z | ⟨s, hs, m, z⟩
      · simp only [z] at p1
        exact p1.elim
      · simp only [z] at p1
        obtain ⟨pa', e1, ho, hFp⟩ := R1.mine_at hs m
        rw [e0] at e1
        cases e1
        cases hd : s.d with
        | lst ds =>
          cases d with
          | tup es =>
            simp only [hd, extT] at p1
            rw [hd] at ho
            by_cases hc : ds.length + es.length < 100000
            · simp only [if_pos hc] at p1
              obtain ⟨xs, hH, hr⟩ := ho
              obtain ⟨b, zs, rfl, hFb, hrb⟩ := x1
              refine ⟨pa, b, xs, zs, rfl, rfl, hH, sqT_mono R1.fh hFb, Nat.le_of_lt (sl100k (by rw [repL_len hr, repL_len hrb]; exact hc)), ?_⟩
              exact p1 σ F1 _ (R1.put hs m e0 ⟨_, upd_same, repL_app hr hrb⟩) (Same.refl F1)
            · simp only [if_neg hc] at p1
              exact p1.elim
          | _ =>
            simp only [hd, extT] at p1
            exact p1.elim
        | _ =>
          simp only [hd, extT] at p1
          exact p1.elim
    | _ =>
      simp only [hd0] at p
      exact p.elim
/-- one of two ways -/
def sAlt (a b : En → SR) : En → SR := fun r => match a r with
  | .bad => b r
  | x => x
theorem DS.alt {st : Stmt} {a b : En → SR} (ha : DS X W st a) (hb : DS X W st b) : DS X W st (sAlt a b) := by
  obtain ⟨t, hp, he⟩ := ha.ex
  obtain ⟨u, kp, ke⟩ := hb.ex
  refine ⟨fun D σ H => t D σ H ∨ u D σ H, ⟨fun pins s σ H D I h => h.elim (hp.run pins s σ H D I) (kp.run pins s σ H D I)⟩, fun B F H r σ Z R p => ?_⟩
  unfold sAlt at p
  cases q : a r with
  | bad =>
    rw [q] at p
    exact .inr (ke B F H r σ Z R p)
  | _ =>
    rw [q] at p
    exact .inl (he B F H r σ Z R (by rw [q]; exact p))
end
end Dl

set_option Elab.async false
set_option linter.all false
set_option maxRecDepth 100000
set_option maxHeartbeats 4000000
namespace Dl
open PySem L2
section
variable {α β : Type} {r r1 : En} {i j n np : Nat} {f g h : En → Res (D × En)} {t u : En → Res (Bool × En)} {fa fb fc : En → Res (BV × En)} {as : En → Res (List D × En)} {s1 s2 : En → SR} {d d0 : D} {ds : List D}
@[simp] theorem pbind_ok (a : α) (k : α → Res β) : (Res.ok a).bind k = k a := rfl
@[simp] theorem pbind_bad (k : α → Res β) : (Res.bad : Res α).bind k = .bad := rfl
@[simp] theorem psbind_ok (a : α) (k : α → SR) : sBind (Res.ok a) k = k a := rfl
@[simp] theorem pvar : eVar i r = match r[i]? with
  | some (some (.fz d)) => .ok (d, r)
  | some (some (.ow d)) => if noOwn d = true then .ok (d, r.set i (some (.fz d))) else .bad
  | _ => .bad := rfl
@[simp] theorem pmv : eMv i r = match r[i]? with
  | some (some (.ow d)) => if noOwn d = true then .ok (d, r.set i none) else .bad
  | _ => .bad := rfl
@[simp] theorem pnoL : noOwn (.lst ds) = true := rfl
@[simp] theorem pnoK {kvs : List (Key × D)} : noOwn (.dk kvs) = true := rfl
@[simp] theorem pnoT {kvs : List (List Key × D)} : noOwn (.dt kvs) = true := rfl
@[simp] theorem pnoI {c : Str} {fs : List (Str × D)} : noOwn (.ins c fs) = fs.all fun q => !isOwn q.2 := rfl
@[simp] theorem pio1 : isOwn (.lst ds) = false := rfl
@[simp] theorem pio2 {kvs : List (Key × D)} : isOwn (.dk kvs) = false := rfl
@[simp] theorem pio3 {kvs : List (List Key × D)} : isOwn (.dt kvs) = false := rfl
@[simp] theorem pio4 {c : Str} {fs : List (Str × D)} : isOwn (.ins c fs) = false := rfl
@[simp] theorem pio5 : isOwn (.tup ds) = false := rfl
@[simp] theorem pio6 {x : Str} : isOwn (.str x) = false := rfl
@[simp] theorem pio7 {x : Int} : isOwn (.int x) = false := rfl
@[simp] theorem pio8 {x : Bool} : isOwn (.bl x) = false := rfl
@[simp] theorem pio9 : isOwn .non = false := rfl
@[simp] theorem pbvar : bVar i r = match r[i]? with
  | some (some _) => .ok (.sl i, r)
  | _ => .bad := rfl
@[simp] theorem pc : eC d r = .ok (d, r) := rfl
@[simp] theorem pbof : bOf f r = (f r).bind fun p => .ok (.fz p.1, p.2) := rfl
@[simp] theorem pgetF : getB (.fz d) r = .ok d := rfl
@[simp] theorem pgetS : getB (.sl i) r = match r[i]? with
  | some (some s) => .ok s.d
  | _ => .bad := rfl
@[simp] theorem pliftS (a : α) : liftR (some a) = .ok a := rfl
@[simp] theorem pliftN : liftR (none : Option α) = .bad := rfl
@[simp] theorem pbin {q : D → D → Option D} : eBin q fa fb r = (fa r).bind fun p => (fb p.2).bind fun z => (getB p.1 z.2).bind fun x => (getB z.1 z.2).bind fun y => (liftR (q x y)).bind fun w => .ok (w, z.2) := rfl
@[simp] theorem pun {q : D → Option D} : eUn q fa r = (fa r).bind fun p => (getB p.1 p.2).bind fun x => (liftR (q x)).bind fun w => .ok (w, p.2) := rfl
@[simp] theorem ptofe : tOfE f r = (f r).bind fun p => match p.1 with
  | .bl c => .ok (c, p.2)
  | _ => .bad := rfl
@[simp] theorem ptand : tAndD t u r = (t r).bind fun p => match p.1 with
  | true => u p.2
  | false => .ok (false, p.2) := rfl
@[simp] theorem ptor : tOrD t u r = (t r).bind fun p => match p.1 with
  | true => .ok (true, p.2)
  | false => u p.2 := rfl
@[simp] theorem ptnot : tNotD t r = (t r).bind fun p => .ok (!p.1, p.2) := rfl
@[simp] theorem ptyes : tYesD r = .ok (true, r) := rfl
@[simp] theorem peif : eIf t f g r = (t r).bind fun p => match p.1 with
  | true => f p.2
  | false => g p.2 := rfl
@[simp] theorem panil : aNil r = .ok ([], r) := rfl
@[simp] theorem pacons : aCons f as r = (f r).bind fun p => (as p.2).bind fun q => .ok (p.1 :: q.1, q.2) := rfl
@[simp] theorem plst : eLst as r = (as r).bind fun p => if p.1.length ≤ 1000 then .ok (.lst p.1, p.2) else .bad := rfl
@[simp] theorem ptup : eTup as r = (as r).bind fun p => if p.1.length ≤ 1000 then .ok (.tup p.1, p.2) else .bad := rfl
@[simp] theorem pdict0 : eDict0 r = .ok (.dk [], r) := rfl
@[simp] theorem pnop : sNop r = .nx r := rfl
@[simp] theorem pseq : sSeq s1 s2 r = match s1 r with
  | .nx r' => s2 r'
  | x => x := rfl
@[simp] theorem pret : sRet f r = sBind (f r) fun p => .rt p.1 p.2 := rfl
@[simp] theorem pexpr : sExpr f r = sBind (f r) fun p => .nx p.2 := rfl
@[simp] theorem psif : sIf t s1 s2 r = sBind (t r) fun p => match p.1 with
  | true => s1 p.2
  | false => s2 p.2 := rfl
@[simp] theorem pasg {q : D → En → Res En} : sAsg f q r = sBind (f r) fun p => sBind (q p.1 p.2) .nx := rfl
@[simp] theorem pset : sSet i f r = sBind (f r) fun p => .nx (p.2.set i (some (.fz p.1))) := rfl
@[simp] theorem pown : sOwn i f r = sBind (f r) fun p => .nx (p.2.set i (some (.ow p.1))) := rfl
@[simp] theorem pgnm : gNm i d r = .ok (r.set i (some (.fz d))) := rfl
@[simp] theorem pgsnil : gsNil [] r = .ok r := rfl
@[simp] theorem pgscons {q : D → En → Res En} {qs : List D → En → Res En} : gsCons q qs (d :: ds) r = (q d r).bind fun r1 => qs ds r1 := rfl
@[simp] theorem pgtp {qs : List D → En → Res En} : gTp n qs (.tup ds) r = if ds.length = n then qs ds r else .bad := rfl
@[simp] theorem psfor {s : En → Res (List D × En)} {q : D → En → Res En} : sFor s q s1 r = sBind (s r) fun p => forD q s1 p.1 p.2 := rfl
@[simp] theorem piseq : iSeq f r = (f r).bind fun p => (liftR (seqD p.1)).bind fun ds => .ok (ds, p.2) := rfl
@[simp] theorem pseqL : seqD (.lst ds) = some ds := rfl
@[simp] theorem pseqT : seqD (.tup ds) = some ds := rfl
@[simp] theorem pseqS {z : Str} : seqD (.str z) = some (charsD z) := rfl
@[simp] theorem pirg1 : iRg1 as r = (as r).bind fun p => match p.1 with
  | [.int b] => if -(2 ^ 62) ≤ b ∧ b < 2 ^ 62 then .ok (rngD 0 b, p.2) else .bad
  | _ => .bad := rfl
@[simp] theorem pien : iEn as r = (as r).bind fun p => match p.1 with
  | [.lst es] => .ok (enumD es, p.2)
  | _ => .bad := rfl
@[simp] theorem pient : iEnT as r = (as r).bind fun p => match p.1 with
  | [.tup es] => .ok (enumD es, p.2)
  | _ => .bad := rfl
@[simp] theorem palt {x y : En → Res α} : eAlt x y r = match x r with
  | .bad => y r
  | z => z := rfl
@[simp] theorem pcall {den : List D → Res D} : eCall den as r = (as r).bind fun p => callR (den p.1) p.2 := rfl
@[simp] theorem pcallR : callR (.ok d) r = .ok (d, r) := rfl
@[simp] theorem pcallB {den : D → List D → Res (D × D)} : eCallB den i as r = if isMine r i = true then (as r).bind fun p => atMine p.2 i fun s => callRB (den s.d p.1) i s p.2 else .bad := rfl
@[simp] theorem pcallRB {s : Sl} {d1 : D} : callRB (.ok (d, d1)) i s r = .ok (d, r.set i (some (s.put d1))) := rfl
@[simp] theorem pismine : isMine r i = match r[i]? with
  | some (some s) => s.mine
  | _ => false := rfl
@[simp] theorem patmine {k : Sl → Res α} : atMine r i k = match r[i]? with
  | some (some s) => if s.mine = true then k s else .bad
  | _ => .bad := rfl
@[simp] theorem patmineS {k : Sl → SR} : atMineS r i k = match r[i]? with
  | some (some s) => if s.mine = true then k s else .bad
  | _ => .bad := rfl
@[simp] theorem pmineF : (Sl.fz d).mine = false := rfl
@[simp] theorem pmineO : (Sl.ow d).mine = true := rfl
@[simp] theorem pmineB : (Sl.bo d).mine = true := rfl
@[simp] theorem pdF : (Sl.fz d).d = d := rfl
@[simp] theorem pdO : (Sl.ow d).d = d := rfl
@[simp] theorem pdB : (Sl.bo d).d = d := rfl
@[simp] theorem pputO : (Sl.ow d).put d0 = .ow d0 := rfl
@[simp] theorem pputB : (Sl.bo d).put d0 = .bo d0 := rfl
@[simp] theorem porD {q k : D → D → Option D} {x y : D} : orD q k x y = match q x y with
  | some z => some z
  | none => k x y := rfl
@[simp] theorem porU {q k : D → Option D} {x : D} : orU q k x = match q x with
  | some z => some z
  | none => k x := rfl
@[simp] theorem pmapR {q : D → Option D} : mapR q (.ok d) = match q d with
  | some z => .ok z
  | none => .bad := rfl
@[simp] theorem ptoB {b : Bool} : toB (.bl b) = some (.bl b) := rfl
@[simp] theorem ptoNB {b : Bool} : toNB (.bl b) = some (.bl (!b)) := rfl
@[simp] theorem pownR {c : Str} {q : D → Option D} {den : List D → Res D} : eOwnR c q den f g r = (f r).bind fun p => (g p.2).bind fun z => match z.1 with
  | .ins c' fs => if c' = c then callR (mapR q (den [.ins c' fs, p.1])) z.2 else .bad
  | _ => .bad := rfl
@[simp] theorem pownL {c : Str} {q : D → Option D} {den : List D → Res D} : eOwnL c q den f g r = (f r).bind fun p => (g p.2).bind fun z => match p.1, z.1 with
  | .ins c' fs, .ins c2 gs => if c' = c ∧ c2 = c then callR (mapR q (den [.ins c' fs, .ins c2 gs])) z.2 else .bad
  | _, _ => .bad := rfl
@[simp] theorem pmeth {c m : Str} {den : List D → Res D} : eMeth c m den f as r = (f r).bind fun p => match p.1 with
  | .ins c' fs => if c' = c ∧ hasNo fs m = true then (as p.2).bind fun q => callR (den (.ins c' fs :: q.1)) q.2 else .bad
  | _ => .bad := rfl
@[simp] theorem pmake {c : Str} {den : D → List D → Res (D × D)} : eMake c den as r = (as r).bind fun p => match den (.ins c []) p.1 with
  | .ok (.non, d1) => if noOwn d1 = true then .ok (d1, p.2) else .bad
  | .er c fs _ => .er c fs p.2
  | _ => .bad := rfl
@[simp] theorem pcallBN {den : D → List D → Res (D × D)} : eCallBN den f r = (f r).bind fun p => callR (fstR (den p.1 [])) p.2 := rfl
@[simp] theorem pfstR {p : D × D} : fstR (.ok p) = .ok p.1 := rfl
@[simp] theorem pand : eAnd f g r = (f r).bind fun p => match p.1 with
  | .bl true => g p.2
  | .bl false => .ok (.bl false, p.2)
  | _ => .bad := rfl
@[simp] theorem por : eOr f g r = (f r).bind fun p => match p.1 with
  | .bl true => .ok (.bl true, p.2)
  | .bl false => g p.2
  | _ => .bad := rfl
@[simp] theorem pnot : eNot f r = (f r).bind fun p => match p.1 with
  | .bl b => .ok (.bl (!b), p.2)
  | _ => .bad := rfl
@[simp] theorem ppar : sPar i j as r = sBind (as r) fun p => match p.1 with
  | [a, b] => .nx ((p.2.set i (some (.fz a))).set j (some (.fz b)))
  | _ => .bad := rfl
@[simp] theorem pnseq : nSeq s1 f r = match s1 r with
  | .nx r' => f r'
  | .er c fs r' => .er c fs r'
  | _ => .bad := rfl
end
end Dl

set_option Elab.async false
set_option linter.all false
set_option maxRecDepth 100000
set_option maxHeartbeats 4000000
namespace Dl
open PySem L2
/-! ### plain data: fine ones, equal ones -/
theorem tpL : ∀ ds : List D, toPyL ds = ds.map toPy
  | [] => rfl
  | d :: ds => by rw [toPyL, tpL ds]; rfl
theorem isDataL_all : ∀ ds : List D, isDataL ds = ds.all isData
  | [] => rfl
  | d :: ds => by rw [isDataL, isDataL_all ds]; rfl
theorem canAll : ∀ ds : List PyData, PyData.canLayAll0 ds = ds.all PyData.canLay0
  | [] => rfl
  | d :: ds => by rw [PyData.canLayAll0, canAll ds]; rfl
theorem depthAll_le {k : Nat} : ∀ {ds : List PyData}, (∀ d ∈ ds, d.depth ≤ k) → PyData.depthAll ds ≤ k
  | [], _ => by rw [PyData.depthAll]; exact Nat.zero_le _
  | d :: ds, h => by
    rw [PyData.depthAll]
    exact Nat.max_le.mpr ⟨h d (by simp), depthAll_le fun x hx => h x (List.mem_cons_of_mem _ hx)⟩
/-- data of at most k levels -/
structure Fine (k : Nat) (x : D) : Prop where
  d : isData x = true
  c : (toPy x).canLay0 = true
  l : (toPy x).depth ≤ k
theorem Fine.ok {k : Nat} {d : D} (h : Fine k d) (hk : k ≤ 64 := by omega) : okPy d = true := by
  unfold okPy SeqAt.shaped
  rw [h.d, h.c]
  simp only [Bool.true_and, decide_eq_true_eq]
  exact Nat.le_trans h.l hk
theorem Fine.mono {j k : Nat} {d : D} (h : Fine j d) (hk : j ≤ k) : Fine k d := ⟨h.d, h.c, Nat.le_trans h.l hk⟩
theorem fine_int {i : Int} : Fine 0 (.int i) := ⟨rfl, rfl, Nat.le_refl _⟩
theorem fine_bl {i : Bool} : Fine 0 (.bl i) := ⟨rfl, rfl, Nat.le_refl _⟩
theorem fine_non : Fine 0 .non := ⟨rfl, rfl, Nat.le_refl _⟩
theorem fine_str {x : Str} (h : PyData.strOk x = true) : Fine 0 (.str x) := ⟨rfl, by rw [toPy, PyData.canLay0]; exact h, by rw [toPy, PyData.depth]; exact Nat.le_refl _⟩
theorem fine_lst {k : Nat} {ds : List D} (h : ∀ d ∈ ds, Fine k d) : Fine (k + 1) (.lst ds) where
  d := by rw [isData, isDataL_all, List.all_eq_true]; exact fun x hx => (h x hx).d
  c := by
    rw [toPy, PyData.canLay0, canAll, List.all_eq_true, tpL]
    intro x hx
    obtain ⟨y, hy, rfl⟩ := List.mem_map.mp hx
    exact (h y hy).c
  l := by
    rw [toPy, PyData.depth, tpL]
    refine Nat.succ_le_succ (depthAll_le fun x hx => ?_)
    obtain ⟨y, hy, rfl⟩ := List.mem_map.mp hx
    exact (h y hy).l
theorem fine_tup {k : Nat} {ds : List D} (h : ∀ d ∈ ds, Fine k d) : Fine (k + 1) (.tup ds) where
  d := by rw [isData, isDataL_all, List.all_eq_true]; exact fun x hx => (h x hx).d
  c := by
    rw [toPy, PyData.canLay0, canAll, List.all_eq_true, tpL]
    intro x hx
    obtain ⟨y, hy, rfl⟩ := List.mem_map.mp hx
    exact (h y hy).c
  l := by
    rw [toPy, PyData.depth, tpL]
    refine Nat.succ_le_succ (depthAll_le fun x hx => ?_)
    obtain ⟨y, hy, rfl⟩ := List.mem_map.mp hx
    exact (h y hy).l
mutual
/-- no truths in it -/
def strictD : D → Bool
  | .non => true
  | .int _ => true
  | .str _ => true
  | .lst ds => strictL ds
  | .tup ds => strictL ds
  | _ => false
def strictL : List D → Bool
  | [] => true
  | d :: ds => strictD d && strictL ds
end
theorem strictL_all : ∀ ds : List D, strictL ds = ds.all strictD
  | [] => rfl
  | d :: ds => by rw [strictL, strictL_all ds]; rfl
mutual
theorem eqv_iff : ∀ (a b : D), strictD a = true → strictD b = true → (PyData.eqv (toPy a) (toPy b) = true ↔ a = b)
  | .non, b, _, hb => by cases b <;> first | (cases hb; done) | simp [toPy, PyData.eqv]
  | .int i, b, _, hb => by cases b <;> first | (cases hb; done) | simp [toPy, PyData.eqv]
  | .str x, b, _, hb => by cases b <;> first | (cases hb; done) | simp [toPy, PyData.eqv]
  | .lst ds, b, ha, hb => by
    cases b with
    | lst es =>
      rw [strictD] at ha hb
      rw [toPy, toPy, PyData.eqv, eqvL_iff ds es ha hb]
      simp
    | _ => first | (cases hb; done) | simp [toPy, PyData.eqv]
  | .tup ds, b, ha, hb => by
    cases b with
    | tup es =>
      rw [strictD] at ha hb
      rw [toPy, toPy, PyData.eqv, eqvL_iff ds es ha hb]
      simp
    | _ => first | (cases hb; done) | simp [toPy, PyData.eqv]
  | .bl _, _, ha, _ => by cases ha
  | .dk _, _, ha, _ => by cases ha
  | .dt _, _, ha, _ => by cases ha
  | .ins _ _, _, ha, _ => by cases ha
  | .ty _, _, ha, _ => by cases ha
  | .gl _, _, ha, _ => by cases ha
  | .scr _, _, ha, _ => by cases ha
theorem eqvL_iff : ∀ (a b : List D), strictL a = true → strictL b = true → (PyData.eqvAll (toPyL a) (toPyL b) = true ↔ a = b)
  | [], [], _, _ => by simp [toPyL, PyData.eqvAll]
  | [], _ :: _, _, _ => by simp [toPyL, PyData.eqvAll]
  | _ :: _, [], _, _ => by simp [toPyL, PyData.eqvAll]
  | x :: xs, y :: ys, ha, hb => by
    rw [strictL, Bool.and_eq_true] at ha hb
    rw [toPyL, toPyL, PyData.eqvAll, Bool.and_eq_true, eqv_iff x y ha.1 hb.1, eqvL_iff xs ys ha.2 hb.2]
    simp
end
/-- == of fine data without truths -/
theorem eqD_iff {a b : D} (ha : okPy a = true) (hb : okPy b = true) (sa : strictD a = true) (sb : strictD b = true) : ∃ c, eqD a b = some (.bl c) ∧ neD a b = some (.bl (!c)) ∧ (c = true ↔ a = b) := by
  by_cases q : ∃ x y, a = .str x ∧ b = .str y
  · obtain ⟨x, y, rfl, rfl⟩ := q
    exact ⟨decide (x = y), rfl, rfl, by simp⟩
  · refine ⟨PyData.eqv (toPy a) (toPy b), ?_, ?_, eqv_iff a b sa sb⟩
    · unfold eqD
      split
      · exact absurd ⟨_, _, rfl, rfl⟩ q
      · rw [if_pos ⟨ha, hb⟩]
    · unfold neD
      split
      · exact absurd ⟨_, _, rfl, rfl⟩ q
      · rw [if_pos ⟨ha, hb⟩]
theorem eqD_same {a : D} (ha : okPy a = true) (sa : strictD a = true) : eqD a a = some (.bl true) ∧ neD a a = some (.bl false) := by
  obtain ⟨c, h1, h2, h3⟩ := eqD_iff ha ha sa sa
  have e : c = true := h3.mpr rfl
  subst e
  exact ⟨h1, h2⟩
theorem eqD_diff {a b : D} (ha : okPy a = true) (hb : okPy b = true) (sa : strictD a = true) (sb : strictD b = true) (h : a ≠ b) : eqD a b = some (.bl false) ∧ neD a b = some (.bl true) := by
  obtain ⟨c, h1, h2, h3⟩ := eqD_iff ha hb sa sb
  have e : c = false := by
    cases c with
    | false => rfl
    | true => exact absurd (h3.mp rfl) h
  subst e
  exact ⟨h1, h2⟩
/-- x in ds -/
theorem inL_iff {x : D} {ds : List D} (hx : okPy x = true) (hd : okPy (.lst ds) = true) (sx : strictD x = true) (sd : strictD (.lst ds) = true) : ∃ c, inLst x (.lst ds) = some (.bl c) ∧ ninLst x (.lst ds) = some (.bl (!c)) ∧ (c = true ↔ x ∈ ds) := by
  have e1 : inLst x (.lst ds) = if okPy x = true ∧ okPy (.lst ds) = true then some (.bl ((toPyL ds).any fun z => PyData.eqv z (toPy x))) else none := by cases x <;> rfl
  have e2 : ninLst x (.lst ds) = if okPy x = true ∧ okPy (.lst ds) = true then some (.bl (!(toPyL ds).any fun z => PyData.eqv z (toPy x))) else none := by cases x <;> rfl
  rw [if_pos ⟨hx, hd⟩] at e1 e2
  refine ⟨_, e1, e2, ?_⟩
  rw [strictD, strictL_all, List.all_eq_true] at sd
  rw [tpL, List.any_eq_true]
  constructor
  · rintro ⟨z, hz, e⟩
    obtain ⟨y, hy, rfl⟩ := List.mem_map.mp hz
    rw [eqv_iff y x (sd y hy) sx] at e
    subst e
    exact hy
  · intro h
    exact ⟨toPy x, List.mem_map.mpr ⟨x, h, rfl⟩, (eqv_iff x x sx sx).mpr rfl⟩
theorem inL_yes {x : D} {ds : List D} (hx : okPy x = true) (hd : okPy (.lst ds) = true) (sx : strictD x = true) (sd : strictD (.lst ds) = true) (h : x ∈ ds) : inLst x (.lst ds) = some (.bl true) ∧ ninLst x (.lst ds) = some (.bl false) := by
  obtain ⟨c, h1, h2, h3⟩ := inL_iff hx hd sx sd
  have e : c = true := h3.mpr h
  subst e
  exact ⟨h1, h2⟩
theorem inL_no {x : D} {ds : List D} (hx : okPy x = true) (hd : okPy (.lst ds) = true) (sx : strictD x = true) (sd : strictD (.lst ds) = true) (h : x ∉ ds) : inLst x (.lst ds) = some (.bl false) ∧ ninLst x (.lst ds) = some (.bl true) := by
  obtain ⟨c, h1, h2, h3⟩ := inL_iff hx hd sx sd
  have e : c = false := by
    cases c with
    | false => rfl
    | true => exact absurd (h3.mp rfl) h
  subst e
  exact ⟨h1, h2⟩
theorem cut_pre {ds : List D} {k : Nat} (h : k ≤ ds.length) : cutD ds none (some (k : Int)) = ds.take k := by
  unfold cutD
  rw [HT.sIx_nat, HT.sIx_none, Nat.min_eq_left h, List.drop_zero, Nat.sub_zero]
theorem enum_cons {d : D} {ds : List D} {k : Nat} : ((d :: ds).zipIdx k).map (fun q => D.tup [.int q.2, q.1]) = .tup [.int k, d] :: (ds.zipIdx (k + 1)).map (fun q => D.tup [.int q.2, q.1]) := by
  simp [List.zipIdx_cons]
end Dl

set_option Elab.async false
set_option linter.all false
set_option maxRecDepth 100000
set_option maxHeartbeats 4000000
namespace Dl
open PySem L2
theorem map_inj {α β : Type} {f : α → β} (h : ∀ x y, f x = f y → x = y) : ∀ {a b : List α}, a.map f = b.map f → a = b
  | [], [], _ => rfl
  | [], _ :: _, e => by simp at e
  | _ :: _, [], e => by simp at e
  | x :: a, y :: b, e => by
    simp only [List.map_cons, List.cons.injEq] at e
    rw [h x y e.1, map_inj h e.2]
/-! ### moments and clauses -/
abbrev Cl : Type := Str × Str × Int
abbrev eCl (c : Cl) : D := .tup [.str c.1, .str c.2.1, .int c.2.2]
abbrev eMs (ms : List Str) : D := .lst (ms.map .str)
abbrev eCs (cs : List Cl) : D := .lst (cs.map eCl)
abbrev eCal (ms : List Str) (cs : List Cl) : D := .ins "Calendar" [("own_moments", eMs ms), ("own_clauses", eCs cs)]
theorem eCl_inj {a b : Cl} (h : eCl a = eCl b) : a = b := by
  obtain ⟨a1, a2, a3⟩ := a
  obtain ⟨b1, b2, b3⟩ := b
  simp only [eCl, D.tup.injEq, List.cons.injEq, D.str.injEq, D.int.injEq, and_true] at h
  obtain ⟨rfl, rfl, rfl⟩ := h
  rfl
theorem eCl_mem {c : Cl} {cs : List Cl} : eCl c ∈ cs.map eCl ↔ c ∈ cs := by
  constructor
  · intro h
    obtain ⟨d, hd, e⟩ := List.mem_map.mp h
    rw [← eCl_inj e]
    exact hd
  · exact fun h => List.mem_map.mpr ⟨c, h, rfl⟩
theorem str_mem {x : Str} {xs : List Str} : D.str x ∈ xs.map D.str ↔ x ∈ xs := by
  constructor
  · intro h
    obtain ⟨d, hd, e⟩ := List.mem_map.mp h
    cases e
    exact hd
  · exact fun h => List.mem_map.mpr ⟨x, h, rfl⟩
def okC (c : Cl) : Prop := PyData.strOk c.1 = true ∧ PyData.strOk c.2.1 = true
theorem fine_cl {c : Cl} (h : okC c) : Fine 1 (eCl c) := fine_tup fun d hd => by
  simp only [List.mem_cons, List.not_mem_nil, or_false] at hd
  rcases hd with rfl | rfl | rfl
  · exact fine_str h.1
  · exact fine_str h.2
  · exact fine_int
theorem fine_ms {ms : List Str} (h : ∀ x ∈ ms, PyData.strOk x = true) : Fine 1 (eMs ms) := fine_lst fun d hd => by
  obtain ⟨x, hx, rfl⟩ := List.mem_map.mp hd
  exact fine_str (h x hx)
theorem fine_cs {cs : List Cl} (h : ∀ c ∈ cs, okC c) : Fine 2 (eCs cs) := fine_lst fun d hd => by
  obtain ⟨x, hx, rfl⟩ := List.mem_map.mp hd
  exact fine_cl (h x hx)
theorem strict_cl {c : Cl} : strictD (eCl c) = true := rfl
theorem strict_ms {ms : List Str} : strictD (eMs ms) = true := by
  rw [eMs, strictD, strictL_all, List.all_eq_true]
  intro d hd
  obtain ⟨x, _, rfl⟩ := List.mem_map.mp hd
  rfl
theorem strict_cs {cs : List Cl} : strictD (eCs cs) = true := by
  rw [eCs, strictD, strictL_all, List.all_eq_true]
  intro d hd
  obtain ⟨x, _, rfl⟩ := List.mem_map.mp hd
  rfl
theorem eMs_inj {a b : List Str} (h : eMs a = eMs b) : a = b := by
  have e : a.map D.str = b.map D.str := D.lst.inj h
  exact map_inj (fun x y e => D.str.inj e) e
theorem eCs_inj {a b : List Cl} (h : eCs a = eCs b) : a = b := by
  have e : a.map eCl = b.map eCl := D.lst.inj h
  exact map_inj (fun x y e => eCl_inj e) e
/-! ### sorted -/
def sortS (ms : List Str) : List Str := ms.mergeSort fun a b => leD (.str a) (.str b)
def sortC (cs : List Cl) : List Cl := cs.mergeSort fun a b => leD (eCl a) (eCl b)
theorem sortS_map (ms : List Str) : (ms.map D.str).mergeSort leD = (sortS ms).map D.str := (List.map_mergeSort (r := fun a b => leD (.str a) (.str b)) (s := leD) (f := D.str) (fun a _ b _ => rfl)).symm
theorem sortC_map (cs : List Cl) : (cs.map eCl).mergeSort leD = (sortC cs).map eCl := (List.map_mergeSort (r := fun a b => leD (eCl a) (eCl b)) (s := leD) (f := eCl) (fun a _ b _ => rfl)).symm
theorem sortS_perm (ms : List Str) : (sortS ms).Perm ms := List.mergeSort_perm _ _
theorem sortC_perm (cs : List Cl) : (sortC cs).Perm cs := List.mergeSort_perm _ _
theorem key_str {x y : Str} (h : PySem.W.keyToks (toPy (.str x)) = PySem.W.keyToks (toPy (.str y))) : x = y := by
  simp only [toPy, PySem.W.keyToks, List.cons.injEq, Sum.inr.injEq, and_true] at h
  cases x
  cases y
  congr
  exact Array.toList_inj.mp h
theorem key_cl {a b : Cl} (h : PySem.W.keyToks (toPy (eCl a)) = PySem.W.keyToks (toPy (eCl b))) : a = b := by
  obtain ⟨⟨a1⟩, ⟨a2⟩, a3⟩ := a
  obtain ⟨⟨b1⟩, ⟨b2⟩, b3⟩ := b
  simp only [eCl, toPy, toPyL, PySem.W.keyToks, PySem.W.keyToksAll, List.cons_append, List.nil_append, List.cons.injEq, Sum.inr.injEq, Sum.inl.injEq, and_true, true_and] at h
  obtain ⟨h1, h2, h3⟩ := h
  rw [Array.toList_inj.mp h1, Array.toList_inj.mp h2, h3]
theorem sortS_eq {a b : List Str} (h : a.Perm b) : sortS a = sortS b := by
  have e := sort_eq (h.map D.str) fun x hx y hy k => by
    obtain ⟨u, _, rfl⟩ := List.mem_map.mp hx
    obtain ⟨v, _, rfl⟩ := List.mem_map.mp hy
    rw [key_str k]
  rw [sortS_map, sortS_map] at e
  exact map_inj (fun x y e => D.str.inj e) e
theorem sortC_eq {a b : List Cl} (h : a.Perm b) : sortC a = sortC b := by
  have e := sort_eq (h.map eCl) fun x hx y hy k => by
    obtain ⟨u, _, rfl⟩ := List.mem_map.mp hx
    obtain ⟨v, _, rfl⟩ := List.mem_map.mp hy
    rw [key_cl k]
  rw [sortC_map, sortC_map] at e
  exact map_inj (fun x y e => eCl_inj e) e
theorem sortedD_ms {ms : List Str} (h : ∀ x ∈ ms, PyData.strOk x = true) (hl : ms.length ≤ 100000) : sortedD (eMs ms) = some (eMs (sortS ms)) := by
  unfold sortedD eMs
  simp only
  rw [if_pos, sortS_map]
  refine ⟨?_, ?_, ?_, by rw [List.length_map]; exact hl⟩
  · unfold okPyL
    rw [List.all_eq_true]
    intro d hd
    obtain ⟨x, hx, rfl⟩ := List.mem_map.mp hd
    exact (fine_str (h x hx)).ok
  · unfold allAlikeB
    rw [List.all_eq_true]
    intro d hd
    rw [List.all_eq_true]
    intro d' hd'
    simp only [List.map_map, List.mem_map] at hd hd'
    obtain ⟨x, _, rfl⟩ := hd
    obtain ⟨y, _, rfl⟩ := hd'
    rfl
  · unfold sortableB
    rw [Bool.or_eq_true]
    right
    rw [List.all_eq_true]
    intro d hd
    simp only [List.map_map, List.mem_map] at hd
    obtain ⟨x, _, rfl⟩ := hd
    rfl
theorem sortedD_cs {cs : List Cl} (h : ∀ c ∈ cs, okC c) (hl : cs.length ≤ 100000) : sortedD (eCs cs) = some (eCs (sortC cs)) := by
  unfold sortedD eCs
  simp only
  rw [if_pos, sortC_map]
  refine ⟨?_, ?_, ?_, by rw [List.length_map]; exact hl⟩
  · unfold okPyL
    rw [List.all_eq_true]
    intro d hd
    obtain ⟨x, hx, rfl⟩ := List.mem_map.mp hd
    exact (fine_cl (h x hx)).ok
  · unfold allAlikeB
    rw [List.all_eq_true]
    intro d hd
    rw [List.all_eq_true]
    intro d' hd'
    simp only [List.map_map, List.mem_map] at hd hd'
    obtain ⟨x, _, rfl⟩ := hd
    obtain ⟨y, _, rfl⟩ := hd'
    rfl
  · unfold sortableB
    rw [Bool.or_eq_true]
    left
    rw [List.all_eq_true]
    intro d hd
    simp only [List.map_map, List.mem_map] at hd
    obtain ⟨x, _, rfl⟩ := hd
    rfl
end Dl

set_option Elab.async false
set_option linter.all false
set_option maxRecDepth 100000
set_option maxHeartbeats 4000000
namespace Dl
open PySem L2
@[simp] theorem ofs_inj {a b : String} : (Str.ofString a = Str.ofString b) ↔ a = b := by
  constructor
  · intro h
    rw [Str.ofString_eq_toList, Str.ofString_eq_toList] at h
    have h1 : a.toList.map Char.toNat = b.toList.map Char.toNat := List.toArray_inj (Str.mk.inj h)
    have h2 : a.toList = b.toList := map_inj (fun x y e => Char.toNat_inj.mp e) h1
    exact String.toList_inj.mp h2
  · rintro rfl
    rfl
@[simp] theorem ofs_beq {a b : String} : (Str.ofString a == Str.ofString b) = (a == b) := by
  rw [Bool.eq_iff_iff]
  simp
@[simp] theorem pfldset {cs : List Str} {n : Str} {i : Nat} {f : En → Res (D × En)} {r : En} : sFldSet cs n i f r = sBind (f r) fun p => atMineS p.2 i fun s => match s.d with
  | .ins c fs => if c ∈ cs ∧ fs.length < 1000 then .nx (p.2.set i (some (s.put (.ins c (putD n p.1 fs))))) else .bad
  | _ => .bad := rfl
@[simp] theorem pmethB {c m : Str} {den : D → List D → Res (D × D)} {i : Nat} {fa : En → Res (List D × En)} {r : En} : eMethB c m den i fa r = atMine r i fun s0 => match s0.d with
  | .ins c' fs => if c' = c ∧ hasNo fs m = true then (fa r).bind fun q => atMine q.2 i fun s => callRB (den s.d q.1) i s q.2 else .bad
  | _ => .bad := rfl
@[simp] theorem pesl {g : D → Option Int → Option Int → Option D} {fe : En → Res (BV × En)} {fl fh : En → Res (Option Int × En)} {r : En} : eSl g fe fl fh r = (fe r).bind fun p => (fl p.2).bind fun l => (fh l.2).bind fun u => (getB p.1 u.2).bind fun d => (liftR (g d l.1 u.1)).bind fun z => .ok (z, u.2) := rfl
@[simp] theorem pdonone {r : En} : doNone r = .ok (none, r) := rfl
@[simp] theorem pdosome {f : En → Res (D × En)} {r : En} : doSome f r = (f r).bind fun p => match p.1 with
  | .int i => .ok (some i, p.2)
  | _ => .bad := rfl
@[simp] theorem pfld {cs : List Str} {n c : Str} {fs : List (Str × D)} : fldD cs n (.ins c fs) = if c ∈ cs then (match fs.lookup n with
  | some (.own _) => none
  | z => z) else none := rfl
@[simp] theorem pcon {c n c' : Str} {d : D} {fs : List (Str × D)} : conD c n d (.ins c' fs) = if c' = c ∧ hasNo fs n = true then some d else none := rfl
@[simp] theorem phasno {fs : List (Str × D)} {m : Str} : hasNo fs m = fs.all fun q => decide (q.1 ≠ m) := rfl
@[simp] theorem pslL {ds : List D} {lo hi : Option Int} : slL (.lst ds) lo hi = some (.lst (cutD ds lo hi)) := rfl
@[simp] theorem plenL {ds : List D} : lenD (.lst ds) = some (.int ds.length) := rfl
@[simp] theorem plenT {ds : List D} : lenD (.tup ds) = some (.int ds.length) := rfl
@[simp] theorem plenK {kvs : List (Key × D)} : lenK (.dk kvs) = some (.int kvs.length) := rfl
@[simp] theorem plenDK {kvs : List (Key × D)} : lenD (.dk kvs) = none := rfl
@[simp] theorem pgt {a b : Int} : gtI (.int a) (.int b) = some (.bl (decide (b < a))) := rfl
@[simp] theorem plt {a b : Int} : ltI (.int a) (.int b) = some (.bl (decide (a < b))) := rfl
@[simp] theorem ple {a b : Int} : leI (.int a) (.int b) = some (.bl (decide (a ≤ b))) := rfl
@[simp] theorem pge {a b : Int} : geI (.int a) (.int b) = some (.bl (decide (b ≤ a))) := rfl
@[simp] theorem padd {a b : Int} : addI (.int a) (.int b) = some (.int (a + b)) := rfl
@[simp] theorem psub {a b : Int} : subI (.int a) (.int b) = some (.int (a - b)) := rfl
@[simp] theorem pixL {ds : List D} {i : Int} : ixG (.lst ds) (.int i) = atI ds i := rfl
@[simp] theorem pixT {ds : List D} {i : Int} : ixG (.tup ds) (.int i) = atI ds i := rfl
@[simp] theorem plistL {ds : List D} : listD (.lst ds) = some (.lst ds) := rfl
@[simp] theorem plistT {ds : List D} : listD (.tup ds) = some (.lst ds) := rfl
@[simp] theorem pcat {a b : List D} : catL (.lst a) (.lst b) = if a.length + b.length ≤ 100000 then some (.lst (a ++ b)) else none := rfl
@[simp] theorem peqSS {a b : Str} : eqD (.str a) (.str b) = some (.bl (decide (a = b))) := rfl
@[simp] theorem peqII {a b : Int} : eqD (.int a) (.int b) = some (.bl (decide (a = b))) := by
  show (if okPy (.int a) = true ∧ okPy (.int b) = true then some (D.bl (PyData.eqv (.int a) (.int b))) else none) = _
  rw [if_pos ⟨rfl, rfl⟩]
  rfl
@[simp] theorem pneII {a b : Int} : neD (.int a) (.int b) = some (.bl (!decide (a = b))) := by
  show (if okPy (.int a) = true ∧ okPy (.int b) = true then some (D.bl (!PyData.eqv (.int a) (.int b))) else none) = _
  rw [if_pos ⟨rfl, rfl⟩]
  rfl
@[simp] theorem peqBB {a b : Bool} : eqD (.bl a) (.bl b) = some (.bl (a == b)) := by
  show (if okPy (.bl a) = true ∧ okPy (.bl b) = true then some (D.bl (PyData.eqv (.bool a) (.bool b))) else none) = _
  rw [if_pos ⟨rfl, rfl⟩]
  rfl
@[simp] theorem plook {a k : Str} {v : D} {l : List (Str × D)} : List.lookup a ((k, v) :: l) = if a = k then some v else l.lookup a := by
  rw [List.lookup_cons]
  by_cases h : a = k
  · rw [if_pos h, beq_iff_eq.mpr h]
  · rw [if_neg h, beq_eq_false_iff_ne.mpr h]
@[simp] theorem pneSS {a b : Str} : neD (.str a) (.str b) = some (.bl (!decide (a = b))) := rfl
@[simp] theorem pisiS {ns : List String} {cs : List Str} {x : Str} : isiB ns cs (.str x) = some (.bl (ns.any fun n => isT "str" n)) := rfl
@[simp] theorem pisiI {ns : List String} {cs : List Str} {x : Int} : isiB ns cs (.int x) = some (.bl (ns.any fun n => isT "int" n)) := rfl
@[simp] theorem pisiBl {ns : List String} {cs : List Str} {x : Bool} : isiB ns cs (.bl x) = some (.bl (ns.any fun n => isT "bool" n)) := rfl
@[simp] theorem pisiL {ns : List String} {cs : List Str} {x : List D} : isiB ns cs (.lst x) = some (.bl (ns.any fun n => isT "list" n)) := rfl
@[simp] theorem pisiT {ns : List String} {cs : List Str} {x : List D} : isiB ns cs (.tup x) = some (.bl (ns.any fun n => isT "tuple" n)) := rfl
@[simp] theorem pisiD {ns : List String} {cs : List Str} {x : List (Key × D)} : isiB ns cs (.dk x) = some (.bl (ns.any fun n => isT "dict" n)) := rfl
@[simp] theorem pisiO {c c' : Str} {cs : List Str} {fs : List (Str × D)} : isiO c cs (.ins c' fs) = if c' = c then some (.bl true) else if c' ∈ cs then some (.bl false) else none := rfl
@[simp] theorem pisT {t n : String} : isT t n = (t == n || (t == "bool" && n == "int")) := rfl
@[simp] theorem pendB {d d1 : D} {r : En} : endB d (some (.bo d1) :: r) = .ok (d, d1) := rfl
@[simp] theorem pputN {n : Str} {d : D} : putD n d [] = [(n, d)] := rfl
@[simp] theorem pputC {n k : Str} {d d0 : D} {fs : List (Str × D)} : putD n d ((k, d0) :: fs) = if k = n then (n, d) :: fs else (k, d0) :: putD n d fs := rfl
theorem atI_nat {α : Type} (l : List α) (k : Nat) : atI l (k : Int) = l[k]? := by
  unfold atI ixN
  rw [if_pos (Int.natCast_nonneg k)]
  by_cases h : k < l.length
  · rw [if_pos (by omega)]
    simp
  · rw [if_neg (by omega)]
    simp
    omega
@[simp] theorem patI0 {α : Type} {l : List α} : atI l 0 = l[0]? := atI_nat l 0
@[simp] theorem patI1 {α : Type} {l : List α} : atI l 1 = l[1]? := atI_nat l 1
@[simp] theorem patI2 {α : Type} {l : List α} : atI l 2 = l[2]? := atI_nat l 2
@[simp] theorem patI3 {α : Type} {l : List α} : atI l 3 = l[3]? := atI_nat l 3
end Dl

set_option Elab.async false
set_option linter.all false
set_option maxRecDepth 100000
set_option maxHeartbeats 4000000
namespace Dl
open PySem L2
/-! ### what is not there yet -/
def ninB {α : Type} [DecidableEq α] (a : List α) (x : α) : Bool := !decide (x ∈ a)
theorem ninB_yes {α : Type} [DecidableEq α] {a : List α} {x : α} (h : x ∉ a) : ninB a x = true := by simp [ninB, h]
theorem ninB_no {α : Type} [DecidableEq α] {a : List α} {x : α} (h : x ∈ a) : ninB a x = false := by simp [ninB, h]
abbrev addL {α : Type} [DecidableEq α] (a b : List α) : List α := a ++ b.filter (ninB a)
theorem nodup_add {α : Type} [DecidableEq α] {a b : List α} (h : a.Nodup) (k : b.Nodup) : (addL a b).Nodup := by
  rw [List.nodup_append]
  refine ⟨h, k.filter _, fun x hx y hy e => ?_⟩
  subst e
  have := (List.mem_filter.mp hy).2
  rw [ninB_no hx] at this
  cases this
theorem mem_add {α : Type} [DecidableEq α] {a b : List α} {x : α} : x ∈ addL a b ↔ x ∈ a ∨ x ∈ b := by
  rw [List.mem_append, List.mem_filter]
  by_cases h : x ∈ a
  · simp [h]
  · simp [h, ninB_yes h]
/-! ### dicts of numbers by names -/
abbrev Nr : Type := List (Str × Int)
abbrev eNear (nr : Nr) : D := .dk (nr.map fun q => (Sum.inr q.1, .int q.2))
def keysN (nr : Nr) : List Str := nr.map (·.1)
def getN (nr : Nr) (x : Str) : Int := ((nr.find? fun q => decide (q.1 = x)).map (·.2)).getD 0
theorem getKD_near {nr : Nr} {x : Str} (h : x ∈ keysN nr) : getKD (nr.map fun q => ((Sum.inr q.1 : Key), D.int q.2)) (Sum.inr x) = some (.int (getN nr x)) := by
  induction nr with
  | nil => simp [keysN] at h
  | cons q nr ih =>
    unfold getKD getN
    by_cases e : q.1 = x
    · simp [List.find?_cons, e]
    · have h' : x ∈ keysN nr := by
        unfold keysN at h ⊢
        rw [List.map_cons, List.mem_cons] at h
        exact h.resolve_left fun z => e z.symm
      have := ih h'
      unfold getKD getN at this
      simp [List.find?_cons, e] at this ⊢
      exact this
theorem getKD_none {nr : Nr} {x : Str} (h : x ∉ keysN nr) : getKD (nr.map fun q => ((Sum.inr q.1 : Key), D.int q.2)) (Sum.inr x) = none := by
  induction nr with
  | nil => rfl
  | cons q nr ih =>
    have h1 : q.1 ≠ x := fun z => h (by unfold keysN; simp [z])
    have h2 : x ∉ keysN nr := fun z => h (by unfold keysN at z ⊢; simp only [List.map_cons, List.mem_cons]; exact .inr z)
    have := ih h2
    unfold getKD at this ⊢
    simp [List.find?_cons, h1] at this ⊢
    exact this
@[simp] theorem pdget {kvs : List (Key × D)} {x : Str} : dgetD (.dk kvs) (.str x) = getKD kvs (.inr x) := rfl
theorem dget_near {nr : Nr} {x : Str} (h : x ∈ keysN nr) : dgetD (eNear nr) (.str x) = some (.int (getN nr x)) := getKD_near h
theorem din_near {nr : Nr} {x : Str} (h : x ∈ keysN nr) : dinD (.str x) (eNear nr) = some (.bl true) := by
  show some (D.bl (getKD (nr.map fun q => ((Sum.inr q.1 : Key), D.int q.2)) (Sum.inr x)).isSome) = _
  rw [getKD_near h]
  rfl
theorem din_near0 {nr : Nr} {x : Str} (h : x ∉ keysN nr) : dinD (.str x) (eNear nr) = some (.bl false) := by
  show some (D.bl (getKD (nr.map fun q => ((Sum.inr q.1 : Key), D.int q.2)) (Sum.inr x)).isSome) = _
  rw [getKD_none h]
  rfl
theorem putKD_new {nr : Nr} {x : Str} {i : Int} (h : x ∉ keysN nr) : putKD (nr.map fun q => ((Sum.inr q.1 : Key), D.int q.2)) (Sum.inr x) (.int i) = (nr ++ [(x, i)]).map fun q => ((Sum.inr q.1 : Key), D.int q.2) := by
  unfold putKD
  rw [if_neg]
  · simp
  · intro z
    rw [List.any_eq_true] at z
    obtain ⟨q, hq, e⟩ := z
    obtain ⟨p, hp, rfl⟩ := List.mem_map.mp hq
    have e' : p.1 = x := by simpa using e
    exact h (by unfold keysN; exact List.mem_map.mpr ⟨p, hp, e'⟩)
theorem merge_near : ∀ {ps acc : Nr}, (keysN (acc ++ ps)).Nodup → mergeKD (acc.map fun q => ((Sum.inr q.1 : Key), D.int q.2)) (ps.map fun q => ((Sum.inr q.1 : Key), D.int q.2)) = (acc ++ ps).map fun q => ((Sum.inr q.1 : Key), D.int q.2)
  | [], acc, _ => by simp [mergeKD]
  | q :: ps, acc, h => by
    have nq : q.1 ∉ keysN acc := by
      unfold keysN at h ⊢
      rw [List.map_append, List.nodup_append] at h
      exact fun z => h.2.2 q.1 z q.1 (by simp) rfl
    have ih := merge_near (ps := ps) (acc := acc ++ [q]) (by rw [List.append_assoc]; exact h)
    unfold mergeKD at ih ⊢
    rw [List.map_cons, List.foldl_cons]
    simp only
    rw [putKD_new nq]
    rw [List.append_assoc] at ih
    exact ih
theorem pairs_near : ∀ nr : Nr, pairsOf (nr.map fun q => D.tup [.str q.1, .int q.2]) = some (nr.map fun q => ((Sum.inr q.1 : Key), D.int q.2))
  | [] => rfl
  | q :: nr => by
    rw [List.map_cons]
    unfold pairsOf
    simp [keyD, pairs_near nr]
theorem items_near (nr : Nr) : itemsL (eNear nr) = some (.lst (nr.map fun q => D.tup [.str q.1, .int q.2])) := by
  unfold itemsL eNear
  simp [keyE]
theorem dictP_near {nr : Nr} (h : (keysN nr).Nodup) : dictP (.lst (nr.map fun q => D.tup [.str q.1, .int q.2])) = some (eNear nr) := by
  unfold dictP
  simp only [pairs_near]
  have := merge_near (ps := nr) (acc := []) h
  simp at this
  simp [this, eNear]
end Dl

set_option Elab.async false
set_option linter.all false
set_option maxRecDepth 100000
set_option maxHeartbeats 4000000
namespace Dl
open PySem L2
theorem for_mapA {α : Type} {f : α → D} {g : D → En → Res En} {b : En → SR} {I : List α → En → Prop} (l : List α) (hs : ∀ pre x suf r, l = pre ++ x :: suf → I pre r → ∃ r1 r2, g (f x) r = .ok r1 ∧ (b r1 = .nx r2 ∨ b r1 = .ct r2) ∧ I (pre ++ [x]) r2) :
    ∀ (suf pre : List α) (r : En), l = pre ++ suf → I pre r → ∃ r', forD g b (suf.map f) r = .nx r' ∧ I l r'
  | [], pre, r, e, h => ⟨r, rfl, by rw [e, List.append_nil]; exact h⟩
  | x :: suf, pre, r, e, h => by
    obtain ⟨r1, r2, h1, h2, h3⟩ := hs pre x suf r e h
    obtain ⟨r', e', i⟩ := for_mapA l hs suf (pre ++ [x]) r2 (by rw [e]; simp) h3
    refine ⟨r', ?_, i⟩
    rw [List.map_cons]
    unfold forD
    rw [h1]
    rcases h2 with h2 | h2
    · simp only [sBind, h2]
      exact e'
    · simp only [sBind, h2]
      exact e'
theorem for_map {α : Type} {f : α → D} {g : D → En → Res En} {b : En → SR} {I : List α → En → Prop} (l : List α) (r : En) (h0 : I [] r) (hs : ∀ pre x suf r, l = pre ++ x :: suf → I pre r → ∃ r1 r2, g (f x) r = .ok r1 ∧ (b r1 = .nx r2 ∨ b r1 = .ct r2) ∧ I (pre ++ [x]) r2) :
    ∃ r', forD g b (l.map f) r = .nx r' ∧ I l r' := for_mapA l hs l [] r rfl h0
@[simp] theorem pextend {i : Nat} {f : En → Res (D × En)} {r : En} : sExtend i f r = atMineS r i fun s0 => match s0.d with
  | .lst _ => sBind (f r) fun p => atMineS p.2 i fun s => match extD s.d p.1 with
    | some z => .nx (p.2.set i (some (s.put z)))
    | none => .bad
  | _ => .bad := rfl
@[simp] theorem pappend {i : Nat} {f : En → Res (D × En)} {r : En} : sAppend i f r = atMineS r i fun s0 => match s0.d with
  | .lst _ => sBind (f r) fun p => atMineS p.2 i fun s => match s.d with
    | .lst ds => if ds.length < 100000 then .nx (p.2.set i (some (s.put (.lst (ds ++ [p.1]))))) else .bad
    | _ => .bad
  | _ => .bad := rfl
@[simp] theorem pext {a b : List D} : extD (.lst a) (.lst b) = if a.length + b.length < 100000 then some (.lst (a ++ b)) else none := rfl
@[simp] theorem pirg2 {as : En → Res (List D × En)} {r : En} : iRg2 as r = (as r).bind fun p => match p.1 with
  | [.int a, .int b] => if -(2 ^ 62) ≤ a ∧ a < 2 ^ 62 ∧ -(2 ^ 62) ≤ b ∧ b < 2 ^ 62 then .ok (rngD a b, p.2) else .bad
  | _ => .bad := rfl
@[simp] theorem pneg {a : Int} : negI (.int a) = some (.int (-a)) := rfl
/-- a comprehension over a mapped list -/
theorem elc_of {α : Type} {f z : α → D} {p : α → Bool} {s : En → Res (List D × En)} {g : D → En → Res En} {t : En → Res (Bool × En)} {e : En → Res (D × En)} {vs : List Nat} {r r0 : En} {l : List α} (hs : s r = .ok (l.map f, r0)) (hl : l.length ≤ 100000)
    (h : ∀ x ∈ l, ∃ r1 r2 r3, g (f x) (wipeE r0 vs) = .ok r1 ∧ t r1 = .ok (p x, r2) ∧ (p x = true → e r2 = .ok (z x, r3) ∧ wipeE r3 vs = wipeE r0 vs) ∧ (p x = false → wipeE r2 vs = wipeE r0 vs)) :
    eLc s g t e vs r = .ok (.lst ((l.filter p).map z), restore r0 vs (wipeE r0 vs)) := by
  unfold eLc
  rw [hs, bind_ok]
  simp only [List.length_map, if_pos hl]
  have key : ∀ (m : List α) (acc : List D), (∀ x ∈ m, x ∈ l) → lcLoop g t e vs (m.map f) (wipeE r0 vs) acc = .ok (acc ++ (m.filter p).map z, wipeE r0 vs) := by
    intro m
    induction m with
    | nil => intro acc _; simp [lcLoop]
    | cons x m ih =>
      intro acc hm
      obtain ⟨r1, r2, r3, h1, h2, h3, h4⟩ := h x (hm x (by simp))
      rw [List.map_cons]
      unfold lcLoop
      rw [h1, nX_ok, bind_ok, h2, nX_ok, bind_ok]
      cases q : p x with
      | true =>
        obtain ⟨h5, h6⟩ := h3 q
        simp only
        rw [h5, nX_ok, bind_ok]
        simp only [h6]
        rw [ih _ fun y hy => hm y (List.mem_cons_of_mem _ hy)]
        simp [List.filter_cons, q]
      | false =>
        simp only [h4 q]
        rw [ih _ fun y hy => hm y (List.mem_cons_of_mem _ hy)]
        simp [List.filter_cons, q]
  rw [key l [] fun x hx => hx, nX_ok, bind_ok]
  rfl
/-- .. without a test -/
theorem elc_all {α : Type} {f z : α → D} {s : En → Res (List D × En)} {g : D → En → Res En} {e : En → Res (D × En)} {vs : List Nat} {r r0 : En} {l : List α} (hs : s r = .ok (l.map f, r0)) (hl : l.length ≤ 100000)
    (h : ∀ x ∈ l, ∃ r1 r3, g (f x) (wipeE r0 vs) = .ok r1 ∧ e r1 = .ok (z x, r3) ∧ wipeE r3 vs = wipeE r0 vs) :
    eLc s g tYesD e vs r = .ok (.lst (l.map z), restore r0 vs (wipeE r0 vs)) := by
  rw [elc_of (p := fun _ => true) (z := z) hs hl, List.filter_eq_self.mpr (by simp)]
  intro x hx
  obtain ⟨r1, r3, h1, h2, h3⟩ := h x hx
  exact ⟨r1, r1, r3, h1, rfl, fun _ => ⟨h2, h3⟩, fun z => nomatch z⟩
end Dl

set_option Elab.async false
set_option linter.all false
set_option maxRecDepth 100000
set_option maxHeartbeats 4000000
namespace Dl
open PySem L2
@[simp] theorem pgsetix {i : Nat} {fi : En → Res (D × En)} {d : D} {r : En} : gSetIx i fi d r = if isMine r i = true then (fi r).bind fun p => atMine p.2 i fun s => match s.d with
  | .lst ds => (match ixD ds.length p.1 with
    | some j => .ok (p.2.set i (some (s.put (.lst (ds.set j d)))))
    | none => .bad)
  | _ => .bad else .bad := rfl
@[simp] theorem pixd0 : ixD 2 (.int 0) = some 0 := rfl
@[simp] theorem pixd1 : ixD 2 (.int 1) = some 1 := rfl
@[simp] theorem pintI {i : Int} : intD (.int i) = some (.int i) := rfl
theorem pmod {a b : Int} (h : 0 < b) : modI (.int a) (.int b) = some (.int (a % b)) := by
  show (if 0 < b then some (D.int (a % b)) else none) = _
  rw [if_pos h]
theorem pfdiv {a b : Int} (h : 0 < b) (k : b < 1073741824) : fdivI (.int a) (.int b) = some (.int (a / b)) := by
  show (if 0 < b ∧ b < 1073741824 then some (D.int (a / b)) else none) = _
  rw [if_pos ⟨h, k⟩]
theorem pmul {a b : Int} (h : -(2 ^ 64) < a ∧ a < 2 ^ 64) : mulI (.int a) (.int b) = some (.int (a * b)) := by
  show (if (-(2 ^ 64) < a ∧ a < 2 ^ 64) ∨ (-(2 ^ 64) < b ∧ b < 2 ^ 64) then some (D.int (a * b)) else none) = _
  rw [if_pos (.inl h)]
/-- a pot -/
def VP (d : D) : Prop := ∃ p0 p1 : Int, d = .lst [.int p0, .int p1] ∧ 0 ≤ p0 ∧ 0 ≤ p1 ∧ p1 < 2147483648
theorem atI_mem {α : Type} {l : List α} {k : Int} (h0 : 0 ≤ k) (h1 : k < l.length) : ∃ x, atI l k = some x ∧ x ∈ l := by
  obtain ⟨n, rfl⟩ := Int.eq_ofNat_of_zero_le h0
  have hn : n < l.length := by omega
  exact ⟨l[n], by rw [Dl.atI_nat]; simp [hn], List.getElem_mem _⟩
theorem atI_m1 {α : Type} (l : List α) : atI l (-1) = l.getLast? := by
  unfold atI ixN
  rw [if_neg (by decide), List.getLast?_eq_getElem?]
  cases l with
  | nil => rfl
  | cons x l =>
    rw [if_pos (by simp; omega)]
    simp
    have : (-1 + ((l.length : Int) + 1)).toNat = l.length := by omega
    rw [this]
    simp
theorem bls {bs : List Bool} : blsOf (bs.map D.bl) = some bs := by
  induction bs with
  | nil => rfl
  | cons b bs ih => simp [blsOf, ih]
theorem all_bl {α : Type} {l : List α} {p : α → Bool} : allD (.lst (l.map fun x => D.bl (p x))) = some (.bl (l.all p)) := by
  have e : (l.map fun x => D.bl (p x)) = (l.map p).map D.bl := by simp
  unfold allD
  simp only
  rw [e, bls]
  simp
theorem intsM {bs : List Int} : intsOf (bs.map D.int) = some bs := by
  induction bs with
  | nil => rfl
  | cons b bs ih => simp [intsOf, ih]
theorem sum_int {α : Type} {l : List α} {p : α → Int} : sumD (.lst (l.map fun x => D.int (p x))) = some (.int (l.map p).sum) := by
  have e : (l.map fun x => D.int (p x)) = (l.map p).map D.int := by simp
  unfold sumD
  simp only
  rw [e, intsM]
  rfl
theorem irg1_ok {as : En → Res (List D × En)} {r r' : En} {n : Int} (h : as r = .ok ([.int n], r')) (h0 : -1000000 ≤ n) (h1 : n ≤ 1000000) : iRg1 as r = .ok (rngD 0 n, r') := by
  unfold iRg1
  rw [h]
  show (if -(2 ^ 62) ≤ n ∧ n < 2 ^ 62 then Res.ok (rngD 0 n, r') else .bad) = _
  rw [if_pos ⟨by omega, by omega⟩]
/-- a loop that ends early where p does not hold -/
theorem for_all {α : Type} {f : α → D} {p : α → Bool} {d : D} {g : D → En → Res En} {b : En → SR} {I : En → Prop} : ∀ (l : List α) (r : En), I r →
    (∀ x ∈ l, ∀ r, I r → ∃ r1, g (f x) r = .ok r1 ∧ (p x = true → ∃ r2, b r1 = .nx r2 ∧ I r2) ∧ (p x = false → ∃ r2, b r1 = .rt d r2)) →
    (l.all p = true → ∃ r', forD g b (l.map f) r = .nx r' ∧ I r') ∧ (l.all p = false → ∃ r', forD g b (l.map f) r = .rt d r')
  | [], r, h, _ => ⟨fun _ => ⟨r, rfl, h⟩, fun z => by simp at z⟩
  | x :: l, r, h, k => by
    obtain ⟨r1, h1, h2, h3⟩ := k x (by simp) r h
    rw [List.map_cons]
    unfold forD
    rw [h1]
    simp only [List.all_cons]
    cases q : p x with
    | true =>
      obtain ⟨r2, e2, i2⟩ := h2 q
      obtain ⟨a1, a2⟩ := for_all l r2 i2 fun y hy => k y (List.mem_cons_of_mem _ hy)
      simp only [sBind, e2, Bool.true_and]
      exact ⟨a1, a2⟩
    | false =>
      obtain ⟨r2, e2⟩ := h3 q
      simp only [sBind, e2, Bool.false_and]
      exact ⟨fun z => absurd z (by decide), fun _ => ⟨r2, rfl⟩⟩
@[simp] theorem pisiN {ns : List String} {cs : List Str} : isiB ns cs .non = some (.bl (ns.any fun n => isT "NoneType" n)) := rfl
@[simp] theorem pisiDT {ns : List String} {cs : List Str} {x : List (List Key × D)} : isiB ns cs (.dt x) = some (.bl (ns.any fun n => isT "dict" n)) := rfl
@[simp] theorem ptupL {ds : List D} : tupleD (.lst ds) = some (.tup ds) := rfl
@[simp] theorem ptupT {ds : List D} : tupleD (.tup ds) = some (.tup ds) := rfl
@[simp] theorem pisB {a b : Bool} : isB (.bl a) (.bl b) = some (.bl (decide (a = b))) := rfl
@[simp] theorem pnotB {a b : Bool} : notB (.bl a) (.bl b) = some (.bl (!decide (a = b))) := rfl
@[simp] theorem pisNB {a b : Bool} : isN (.bl a) (.bl b) = none := rfl
@[simp] theorem pnotNB {a b : Bool} : notN (.bl a) (.bl b) = none := rfl
@[simp] theorem prep2 {d : D} : repD (.lst [d]) (.int 2) = some (.lst [d, d]) := rfl
@[simp] theorem pslT {ds : List D} {lo hi : Option Int} : slT (.tup ds) lo hi = some (.tup (cutD ds lo hi)) := rfl
@[simp] theorem pslAL {ds : List D} {lo hi : Option Int} : slA (.lst ds) lo hi = some (.lst (cutD ds lo hi)) := rfl
@[simp] theorem pslAT {ds : List D} {lo hi : Option Int} : slA (.tup ds) lo hi = some (.tup (cutD ds lo hi)) := rfl
@[simp] theorem pizip {f : En → Res (List D × En)} {r : En} : iZip f r = (f r).bind fun p => match p.1 with
  | [.lst ds, .lst es] => .ok (zipD ds es, p.2)
  | [.tup ds, .tup es] => .ok (zipD ds es, p.2)
  | _ => .bad := rfl
@[simp] theorem pdispC {ks : List Key} {n : Int} {r : En} : eDispC ks n r = .ok (.dt [(ks, .int n)], r) := rfl
@[simp] theorem pmethK {c m : Str} {n j : Nat} {den : List D → List D → Res D} {fo : En → Res (D × En)} {fa fk : En → Res (List D × En)} {r : En} : eMethK c m n j den fo fa fk r = (fo r).bind fun o => match o.1 with
  | .ins c' fs => if c' = c ∧ hasNo fs m = true then (fa o.2).bind fun p => (fk p.2).bind fun q => if p.1.length + 1 = n ∧ q.1.length = j then callR (den (.ins c' fs :: p.1) q.1) q.2 else .bad else .bad
  | _ => .bad := rfl
@[simp] theorem pislst {r : En} {i : Nat} : isLstAt r i = match r[i]? with
  | some (some s) => s.mine && (match s.d with | .lst _ => true | _ => false)
  | _ => false := by
  unfold isLstAt
  cases r[i]? with
  | none => rfl
  | some o =>
    cases o with
    | none => rfl
    | some s =>
      cases s <;> first | rfl | (rename_i d; cases d <;> rfl)
@[simp] theorem plm {i : Nat} {g : List D → List D → Option (D × List D)} {fa : En → Res (List D × En)} {r : En} : eLm i g fa r = if isLstAt r i = true then (fa r).bind fun p => atMine p.2 i fun s => match s.d with
  | .lst ds => (match g ds p.1 with
    | some (z, es) => .ok (z, p.2.set i (some (s.put (.lst es))))
    | none => .bad)
  | _ => .bad else .bad := rfl
/-- texts, each once -/
def cntS (xs : List Str) : Nat := ((xs.map (Sum.inr : Str → Key)).foldl dedS []).length
theorem keysM (xs : List Str) : keysD (xs.map D.str) = some (xs.map Sum.inr) := by
  induction xs with
  | nil => rfl
  | cons x xs ih => simp [keysD, ih, keyD]
theorem lenSet_str {xs : List Str} (h : xs.length ≤ 1000) : lenSetD (.lst (xs.map D.str)) = some (.int (cntS xs)) := by
  unfold lenSetD
  simp only [keysM, List.length_map, if_pos h]
  rfl
theorem repr2 {a b : Bool} : reprB (.lst [.bl a, .bl b]) = none ∧ reprD (.lst [.bl a, .bl b]) = some (.str (toPy (.lst [.bl a, .bl b])).shown) := by
  refine ⟨rfl, ?_⟩
  unfold reprD
  simp only
  rw [if_pos]
  · cases a <;> cases b <;> decide +kernel
/-- any data in a list of data -/
theorem in_ex {x : D} {ds : List D} (hx : okPy x = true) (hd : okPy (.lst ds) = true) : ∃ c, inLst x (.lst ds) = some (.bl c) ∧ ninLst x (.lst ds) = some (.bl (!c)) := by
  have e1 : inLst x (.lst ds) = if okPy x = true ∧ okPy (.lst ds) = true then some (.bl ((toPyL ds).any fun z => PyData.eqv z (toPy x))) else none := by cases x <;> rfl
  have e2 : ninLst x (.lst ds) = if okPy x = true ∧ okPy (.lst ds) = true then some (.bl (!(toPyL ds).any fun z => PyData.eqv z (toPy x))) else none := by cases x <;> rfl
  rw [if_pos ⟨hx, hd⟩] at e1 e2
  exact ⟨_, e1, e2⟩
theorem cut_from1 {ds : List D} : cutD ds (some 1) none = ds.drop 1 := by
  unfold cutD
  rw [HT.sIx_none, show (1 : Int) = ((1 : Nat) : Int) from rfl, HT.sIx_nat]
  cases ds with
  | nil => rfl
  | cons d ds =>
    rw [Nat.min_eq_left (by simp)]
    rw [List.take_of_length_le]
    simp
end Dl

set_option Elab.async false
set_option linter.all false
set_option maxRecDepth 100000
set_option maxHeartbeats 4000000
namespace Dl
open PySem L2
section
variable {r : En} {i j : Nat} {f g fk fv fa fb : En → Res (D × En)} {s1 s2 : En → SR} {d : D} {ds : List D} {kvs : List (Key × D)}
@[simp] theorem pnoXok {α : Type} {a : α} : noX (.ok a) = .ok a := rfl
@[simp] theorem psalt : sAlt s1 s2 r = match s1 r with
  | .bad => s2 r
  | x => x := rfl
@[simp] theorem pparO : sParO i j fa fb r = sBind (fa r) fun p => sBind (noX (fb p.2)) fun q => .nx ((q.2.set i (some (.ow p.1))).set j (some (.fz q.1))) := rfl
@[simp] theorem pdisp1 : eDisp1 fk fv r = (noX (fk r)).bind fun a => (noX (fv a.2)).bind fun b => match keyD a.1 with
  | some k => .ok (.dk [(k, b.1)], b.2)
  | none => .bad := rfl
@[simp] theorem pcnt : eCnt fa fb r = (fa r).bind fun p => (noX (fb p.2)).bind fun q => (liftR (cntD p.1 q.1)).bind fun z => .ok (z, q.2) := rfl
@[simp] theorem pikey : iKeyD f r = (f r).bind fun p => match p.1 with
  | .dk kvs => .ok (keysOfD kvs, p.2)
  | _ => .bad := rfl
@[simp] theorem piown {c n : Str} : iOwn c n f r = (f r).bind fun p => match p.1 with
  | .ins c' fs => if c' = c then (match fs.lookup n with
    | some (.dk kvs) => .ok (keysOfD kvs, p.2)
    | _ => .bad) else .bad
  | _ => .bad := rfl
@[simp] theorem plistK : listK (.dk kvs) = some (.lst (keysOfD kvs)) := rfl
@[simp] theorem plistKL : listK (.lst ds) = none := rfl
@[simp] theorem plistKT : listK (.tup ds) = none := rfl
@[simp] theorem plistDK : listD (.dk kvs) = none := rfl
@[simp] theorem prevL : revD (.lst ds) = some (.lst ds.reverse) := rfl
@[simp] theorem psortTL : sortedT (.lst ds) = none := rfl
@[simp] theorem psortKL : sortedK (.lst ds) = none := rfl
@[simp] theorem psortKT : sortedK (.tup ds) = none := rfl
@[simp] theorem psortDT : sortedD (.tup ds) = none := rfl
@[simp] theorem psortDK : sortedD (.dk kvs) = none := rfl
@[simp] theorem psortTK : sortedT (.dk kvs) = none := rfl
@[simp] theorem pkeyS {x : Str} : keyD (.str x) = some (.inr x) := rfl
@[simp] theorem pkeyI {x : Int} : keyD (.int x) = some (.inl x) := rfl
@[simp] theorem pdgetS {x : Str} : dgetD (.dk kvs) (.str x) = getKD kvs (.inr x) := rfl
@[simp] theorem pdinS {x : Str} : dinD (.str x) (.dk kvs) = some (.bl (getKD kvs (.inr x)).isSome) := rfl
@[simp] theorem plenTK : lenD (.dk kvs) = none := rfl
@[simp] theorem plsetT : lenSetT (.lst ds) = none := rfl
@[simp] theorem plsetD : lenSetD (.tup ds) = none := rfl
theorem lenSetT_str {xs : List Str} (h : xs.length ≤ 1000) : lenSetT (.tup (xs.map D.str)) = some (.int (cntS xs)) := by
  unfold lenSetT
  simp only [keysM, List.length_map, if_pos h]
  rfl
end
/-! ### how many texts there are, each counted once -/
theorem ded_mem (k : Key) : ∀ (ks l : List Key), (∃ x ∈ ks.foldl dedS l, x = k) ↔ (k ∈ l ∨ k ∈ ks)
  | [], l => by simp
  | a :: ks, l => by
    rw [List.foldl_cons, ded_mem k ks]
    have e : k ∈ dedS l a ↔ (k ∈ l ∨ k = a) := by
      unfold dedS
      split
      · rename_i h
        have : a ∈ l := by simpa [memS] using h
        constructor
        · exact .inl
        · rintro (z | rfl)
          · exact z
          · exact this
      · simp
    rw [e]
    simp [or_assoc]
theorem ded_nodup : ∀ (ks l : List Key), l.Nodup → (ks.foldl dedS l).Nodup
  | [], l, h => h
  | a :: ks, l, h => by
    rw [List.foldl_cons]
    refine ded_nodup ks _ ?_
    unfold dedS
    split
    · exact h
    · rename_i q
      have : a ∉ l := fun z => q (by simpa [memS] using z)
      rw [List.nodup_append]
      exact ⟨h, by simp, fun x hx y hy e => this (by rw [← List.mem_singleton.mp hy, ← e]; exact hx)⟩
theorem dedL_mem {k : Key} {ks : List Key} : k ∈ dedL ks ↔ k ∈ ks := by
  have := ded_mem k ks []
  simpa [dedL] using this
theorem dedL_nodup (ks : List Key) : (dedL ks).Nodup := ded_nodup ks [] List.nodup_nil
theorem len_of_same {α : Type} [DecidableEq α] {l m : List α} (hl : l.Nodup) (hm : m.Nodup) (h : ∀ x, x ∈ l ↔ x ∈ m) : l.length = m.length :=
  (List.perm_iff_count.mpr fun a => by rw [hl.count, hm.count]; simp [h a]).length_eq
theorem dedL_same {ks js : List Key} (h : ∀ k, k ∈ ks ↔ k ∈ js) : (dedL ks).length = (dedL js).length :=
  len_of_same (dedL_nodup ks) (dedL_nodup js) fun k => by rw [dedL_mem, dedL_mem, h k]
theorem dedL_len {ks : List Key} (h : ks.Nodup) : (dedL ks).length = ks.length := len_of_same (dedL_nodup ks) h fun k => dedL_mem
theorem ded_full : ∀ (ks l : List Key), (ks.foldl dedS l).length = l.length + ks.length → (∀ k ∈ ks, k ∉ l) ∧ ks.Nodup
  | [], l, _ => ⟨(fun _ h => nomatch h), List.nodup_nil⟩
  | a :: ks, l, h => by
    rw [List.foldl_cons, List.length_cons] at h
    have h1 := dedL_le ks (dedS l a)
    have h2 := dedS_length l a
    by_cases q : memS l a = true
    · rw [if_pos q] at h2
      omega
    · rw [if_neg q] at h2
      obtain ⟨k1, k2⟩ := ded_full ks (dedS l a) (by omega)
      have e : dedS l a = l ++ [a] := by
        unfold dedS
        rw [if_neg q]
      have na : a ∉ l := fun z => q (by simpa [memS] using z)
      rw [e] at k1
      refine ⟨fun k hk => ?_, List.nodup_cons.mpr ⟨fun z => k1 a z (by simp), k2⟩⟩
      rcases List.mem_cons.mp hk with z | z
      · rw [z]; exact na
      · exact fun w => k1 k z (by simp [w])
theorem dedL_iff {ks : List Key} : (dedL ks).length = ks.length ↔ ks.Nodup := ⟨fun h => (ded_full ks [] (by simpa [dedL] using h)).2, dedL_len⟩
theorem inr_nodup {xs : List Str} : (xs.map (Sum.inr : Str → Key)).Nodup ↔ xs.Nodup := by
  constructor
  · intro h
    exact (List.pairwise_map.mp h).imp fun q e => q (congrArg Sum.inr e)
  · intro h
    refine List.Pairwise.map _ (fun a b q e => q (Sum.inr.inj e)) h
theorem cntS_iff {xs : List Str} : cntS xs = xs.length ↔ xs.Nodup := by
  have := dedL_iff (ks := xs.map (Sum.inr : Str → Key))
  rw [List.length_map, inr_nodup] at this
  exact this
theorem cntS_same {xs ys : List Str} (h : ∀ x, x ∈ xs ↔ x ∈ ys) : cntS xs = cntS ys :=
  dedL_same (ks := xs.map Sum.inr) (js := ys.map Sum.inr) fun k => by
    cases k with
    | inl i => simp
    | inr x => simp [h x]
end Dl

set_option Elab.async false
set_option linter.all false
set_option maxRecDepth 100000
set_option maxHeartbeats 4000000
namespace Dl
open PySem L2
/-! ### dicts with texts for keys, of any values -/
section
variable {α : Type} {f : α → D}
def kd (f : α → D) (l : List (Str × α)) : List (Key × D) := l.map fun q => (Sum.inr q.1, f q.2)
def eKd (f : α → D) (l : List (Str × α)) : D := .dk (kd f l)
def ksT (l : List (Str × α)) : List Str := l.map (·.1)
def getT (l : List (Str × α)) (x : Str) : Option α := (l.find? fun q => decide (q.1 = x)).map (·.2)
theorem getT_mem {l : List (Str × α)} {x : Str} {a : α} (h : getT l x = some a) : (x, a) ∈ l := by
  unfold getT at h
  cases q : l.find? fun q => decide (q.1 = x) with
  | none => rw [q] at h; cases h
  | some p =>
    rw [q] at h
    cases h
    have h1 := List.mem_of_find?_eq_some q
    have h2 : p.1 = x := by simpa using List.find?_some q
    obtain ⟨a, b⟩ := p
    simp only at h2
    subst h2
    exact h1
theorem getT_some {l : List (Str × α)} {x : Str} : (∃ a, getT l x = some a) ↔ x ∈ ksT l := by
  constructor
  · rintro ⟨a, h⟩
    exact List.mem_map.mpr ⟨_, getT_mem h, rfl⟩
  · intro h
    obtain ⟨p, hp, rfl⟩ := List.mem_map.mp h
    unfold getT
    cases q : l.find? fun q => decide (q.1 = p.1) with
    | none =>
      have := List.find?_eq_none.mp q p hp
      simp at this
    | some z => exact ⟨z.2, rfl⟩
theorem getT_none {l : List (Str × α)} {x : Str} (h : x ∉ ksT l) : getT l x = none := by
  cases q : getT l x with
  | none => rfl
  | some a => exact absurd (getT_some.mp ⟨a, q⟩) h
/-- at a key that stands once -/
theorem getT_of {l : List (Str × α)} {x : Str} {a : α} (h : (x, a) ∈ l) (nd : (ksT l).Nodup) : getT l x = some a := by
  obtain ⟨b, hb⟩ := getT_some.mpr (List.mem_map.mpr ⟨_, h, rfl⟩ : x ∈ ksT l)
  have hm := getT_mem hb
  have : b = a := by
    induction l with
    | nil => cases h
    | cons p l ih =>
      have nd' := List.nodup_cons.mp (show ((p.1) :: ksT l).Nodup from nd)
      rcases List.mem_cons.mp h with e | e
      · rcases List.mem_cons.mp hm with e2 | e2
        · rw [← e] at e2
          exact (Prod.mk.inj e2).2
        · exact absurd (List.mem_map.mpr ⟨_, e2, rfl⟩ : x ∈ ksT l) (by rw [← e] at nd'; exact nd'.1)
      · rcases List.mem_cons.mp hm with e2 | e2
        · exact absurd (List.mem_map.mpr ⟨_, e, rfl⟩ : x ∈ ksT l) (by rw [← e2] at nd'; exact nd'.1)
        · refine ih e nd'.2 ?_ e2
          obtain ⟨c, hc⟩ := getT_some.mpr (List.mem_map.mpr ⟨_, e, rfl⟩ : x ∈ ksT l)
          have nx : ¬ p.1 = x := fun z => nd'.1 (by rw [z]; exact List.mem_map.mpr ⟨_, e, rfl⟩)
          unfold getT at hb hc ⊢
          rw [List.find?_cons] at hb
          simp only [decide_eq_false nx] at hb
          exact hb
  rw [hb, this]
theorem get_kd {l : List (Str × α)} {x : Str} : getKD (kd f l) (Sum.inr x) = (getT l x).map f := by
  induction l with
  | nil => rfl
  | cons p l ih =>
    unfold getKD getT kd at *
    rw [List.map_cons, List.find?_cons, List.find?_cons]
    by_cases e : p.1 = x
    · simp [e]
    · simp only [Sum.inr.injEq, decide_eq_false e]
      exact ih
theorem keys_kd {l : List (Str × α)} : keysOfD (kd f l) = (ksT l).map D.str := by
  unfold keysOfD kd ksT
  simp [keyE]
theorem str_kd : ∀ {l : List (Str × α)}, strK (kd f l) = some (ksT l)
  | [] => rfl
  | p :: l => by
    show (strK (kd f l)).map _ = _
    rw [str_kd]
    rfl
theorem sorted_kd {l : List (Str × α)} (h : l.length < 64) : sortedK (eKd f l) = some (.lst ((sortS (ksT l)).map D.str)) := by
  unfold sortedK eKd
  simp only [str_kd]
  rw [if_pos (by unfold ksT; rw [List.length_map]; exact h), sortS_map]
def putT (l : List (Str × α)) (x : Str) (a : α) : List (Str × α) := if x ∈ ksT l then l.map (fun q => if q.1 = x then (q.1, a) else q) else l ++ [(x, a)]
theorem any_kd {l : List (Str × α)} {x : Str} : ((kd f l).any fun kv => decide (kv.1 = Sum.inr x)) = decide (x ∈ ksT l) := by
  rw [Bool.eq_iff_iff, List.any_eq_true, decide_eq_true_eq]
  constructor
  · rintro ⟨p, hp, e⟩
    obtain ⟨q, hq, rfl⟩ := List.mem_map.mp hp
    exact List.mem_map.mpr ⟨q, hq, by simpa using e⟩
  · intro h
    obtain ⟨q, hq, rfl⟩ := List.mem_map.mp h
    exact ⟨_, List.mem_map.mpr ⟨q, hq, rfl⟩, by simp⟩
theorem put_kd {l : List (Str × α)} {x : Str} {a : α} : putKD (kd f l) (Sum.inr x) (f a) = kd f (putT l x a) := by
  unfold putKD putT
  rw [any_kd]
  by_cases h : x ∈ ksT l
  · rw [if_pos (by simpa using h), if_pos h]
    unfold kd
    rw [List.map_map, List.map_map]
    refine List.map_congr_left fun q _ => ?_
    by_cases e : q.1 = x <;> simp [e]
  · rw [if_neg (by simpa using h), if_neg h]
    unfold kd
    simp
theorem drop_kd {l : List (Str × α)} {x : Str} : dropKD (kd f l) (Sum.inr x) = kd f (l.filter fun q => decide (q.1 ≠ x)) := by
  unfold dropKD kd
  rw [List.filter_map]
  congr 1
  refine List.filter_congr fun q _ => ?_
  simp
theorem keys_put {l : List (Str × α)} {x : Str} {a : α} : ksT (putT l x a) = if x ∈ ksT l then ksT l else ksT l ++ [x] := by
  unfold putT
  by_cases h : x ∈ ksT l
  · rw [if_pos h, if_pos h]
    unfold ksT
    rw [List.map_map]
    refine List.map_congr_left fun q _ => ?_
    by_cases e : q.1 = x <;> simp [e]
  · rw [if_neg h, if_neg h]
    unfold ksT
    simp
theorem mergeT : ∀ {ps acc : List (Str × α)}, (ksT (acc ++ ps)).Nodup → mergeKD (kd f acc) (kd f ps) = kd f (acc ++ ps)
  | [], acc, _ => by simp [mergeKD, kd]
  | q :: ps, acc, h => by
    have nq : q.1 ∉ ksT acc := by
      unfold ksT at h ⊢
      rw [List.map_append, List.nodup_append] at h
      exact fun z => h.2.2 q.1 z q.1 (by simp) rfl
    have ih := mergeT (ps := ps) (acc := acc ++ [q]) (by rw [List.append_assoc]; exact h)
    show mergeKD (putKD (kd f acc) (Sum.inr q.1) (f q.2)) (kd f ps) = _
    rw [put_kd]
    unfold putT
    rw [if_neg nq]
    rw [List.append_assoc] at ih
    exact ih
theorem pairsT : ∀ l : List (Str × α), pairsOf (l.map fun q => D.tup [.str q.1, f q.2]) = some (kd f l)
  | [] => rfl
  | q :: l => by
    rw [List.map_cons]
    unfold pairsOf
    simp [keyD, pairsT l, kd]
theorem dictT {l : List (Str × α)} (h : (ksT l).Nodup) : dictP (.lst (l.map fun q => D.tup [.str q.1, f q.2])) = some (eKd f l) := by
  unfold dictP
  simp only [pairsT]
  have := mergeT (f := f) (ps := l) (acc := []) h
  have e : mergeKD [] (kd f l) = kd f l := this
  simp [e, eKd]
theorem len_kd {l : List (Str × α)} : (kd f l).length = l.length := by unfold kd; rw [List.length_map]
end
end Dl

set_option Elab.async false
set_option linter.all false
set_option maxRecDepth 100000
set_option maxHeartbeats 0
namespace K82
open PySem L2 Dl
def top (i : Nat) : Stmt := PySem.Challenge.pw_letdays_k82_choices_cuts_and_takings_jud.main.body.getD i (.Pass ⟨0, 0, 0, 0⟩)
def clsB : Stmt → List Stmt
  | .ClassDef (body := b) .. => b
  | _ => []
def mth (i j : Nat) : Stmt := (clsB (top i)).getD j (.Pass ⟨0, 0, 0, 0⟩)
abbrev df_0 : He.DefD := ⟨("_law_pot", none), "_law_pot", "_law_pot", defArgs (top 27), defBody (top 27), defScope (top 27), [], []⟩
abbrev df_1 : He.DefD := ⟨("_law_films", none), "_law_films", "_law_films", defArgs (top 33), defBody (top 33), defScope (top 33), [], []⟩
abbrev df_2 : He.DefD := ⟨("Lots", some "__contains__"), "__contains__", "Lots.__contains__", defArgs (mth 20 11), defBody (mth 20 11), defScope (mth 20 11), [], []⟩
abbrev df_3 : He.DefD := ⟨("Lots", some "films_of"), "films_of", "Lots.films_of", defArgs (mth 20 4), defBody (mth 20 4), defScope (mth 20 4), [], []⟩
abbrev df_4 : He.DefD := ⟨("Lots", some "wanted_by"), "wanted_by", "Lots.wanted_by", defArgs (mth 20 5), defBody (mth 20 5), defScope (mth 20 5), [], []⟩
abbrev df_5 : He.DefD := ⟨("is_list", none), "is_list", "is_list", defArgs (top 7), defBody (top 7), defScope (top 7), [], []⟩
abbrev df_6 : He.DefD := ⟨("is_name", none), "is_name", "is_name", defArgs (top 8), defBody (top 8), defScope (top 8), [], []⟩
abbrev df_7 : He.DefD := ⟨("are_names", none), "are_names", "are_names", defArgs (top 9), defBody (top 9), defScope (top 9), [], []⟩
abbrev df_8 : He.DefD := ⟨("is_cut", none), "is_cut", "is_cut", defArgs (top 25), defBody (top 25), defScope (top 25), [], []⟩
abbrev df_9 : He.DefD := ⟨("_law_cut_right", none), "_law_cut_right", "_law_cut_right", defArgs (top 38), defBody (top 38), defScope (top 38), [], []⟩
abbrev df_10 : He.DefD := ⟨("_law_draw", none), "_law_draw", "_law_draw", defArgs (top 28), defBody (top 28), defScope (top 28), [], []⟩
abbrev df_11 : He.DefD := ⟨("_law_is_taking", none), "_law_is_taking", "_law_is_taking", defArgs (top 35), defBody (top 35), defScope (top 35), [], []⟩
abbrev df_12 : He.DefD := ⟨("Lots", some "__iter__"), "__iter__", "Lots.__iter__", defArgs (mth 20 12), defBody (mth 20 12), defScope (mth 20 12), [], []⟩
abbrev df_13 : He.DefD := ⟨("Lots", some "all_houses"), "all_houses", "Lots.all_houses", defArgs (mth 20 6), defBody (mth 20 6), defScope (mth 20 6), [], []⟩
abbrev df_14 : He.DefD := ⟨("is_films_of", none), "is_films_of", "is_films_of", defArgs (top 21), defBody (top 21), defScope (top 21), [], []⟩
abbrev df_15 : He.DefD := ⟨("is_taking_by", none), "is_taking_by", "is_taking_by", defArgs (top 22), defBody (top 22), defScope (top 22), [], []⟩
abbrev df_16 : He.DefD := ⟨("is_taking", none), "is_taking", "is_taking", defArgs (top 23), defBody (top 23), defScope (top 23), [], []⟩
abbrev df_17 : He.DefD := ⟨("is_choice", none), "is_choice", "is_choice", defArgs (top 24), defBody (top 24), defScope (top 24), [], []⟩
abbrev df_18 : He.DefD := ⟨("_law_judged", none), "_law_judged", "_law_judged", defArgs (top 37), defBody (top 37), defScope (top 37), [], []⟩
abbrev df_19 : He.DefD := ⟨("is_integer", none), "is_integer", "is_integer", defArgs (top 5), defBody (top 5), defScope (top 5), [], []⟩
abbrev df_20 : He.DefD := ⟨("is_count", none), "is_count", "is_count", defArgs (top 6), defBody (top 6), defScope (top 6), [], []⟩
abbrev df_21 : He.DefD := ⟨("is_lot", none), "is_lot", "is_lot", defArgs (top 18), defBody (top 18), defScope (top 18), [], []⟩
abbrev df_22 : He.DefD := ⟨("want_lots", none), "want_lots", "want_lots", defArgs (top 19), defBody (top 19), defScope (top 19), [], []⟩
abbrev df_23 : He.DefD := ⟨("Lots", some "__init__"), "__init__", "Lots.__init__", defArgs (mth 20 2), defBody (mth 20 2), defScope (mth 20 2), [], []⟩
abbrev df_24 : He.DefD := ⟨("_law_lots", none), "_law_lots", "_law_lots", defArgs (top 31), defBody (top 31), defScope (top 31), [], []⟩
abbrev df_25 : He.DefD := ⟨("_law_odd_right", none), "_law_odd_right", "_law_odd_right", defArgs (top 39), defBody (top 39), defScope (top 39), [], []⟩
abbrev df_26 : He.DefD := ⟨("_law_pick", none), "_law_pick", "_law_pick", defArgs (top 29), defBody (top 29), defScope (top 29), [], []⟩
abbrev df_27 : He.DefD := ⟨("_law_rows", none), "_law_rows", "_law_rows", defArgs (top 30), defBody (top 30), defScope (top 30), [], []⟩
abbrev df_28 : He.DefD := ⟨("_law_spoilt", none), "_law_spoilt", "_law_spoilt", defArgs (top 36), defBody (top 36), defScope (top 36), [], []⟩
abbrev df_29 : He.DefD := ⟨("_law_takings", none), "_law_takings", "_law_takings", defArgs (top 32), defBody (top 32), defScope (top 32), [], []⟩
abbrev df_30 : He.DefD := ⟨("_law_right", none), "_law_right", "_law_right", defArgs (top 40), defBody (top 40), defScope (top 40), [], []⟩
abbrev df_31 : He.DefD := ⟨("law", none), "law", "law", defArgs (top 41), defBody (top 41), defScope (top 41), [], []⟩
def fn : List He.DefD := [df_0, df_1, df_2, df_3, df_4, df_5, df_6, df_7, df_8, df_9, df_10, df_11, df_12, df_13, df_14, df_15, df_16, df_17, df_18, df_19, df_20, df_21, df_22, df_23, df_24, df_25, df_26, df_27, df_28, df_29, df_30, df_31]
def fa : List He.Fa := [.glo "law", .free "len", .free "min", .free "max", .free "range", .glo "_law_pot", .glo "_law_right", .free "all", .free "int", .free "abs", .glo "_law_rows", .glo "_law_takings", .glo "_law_lots", .free "sorted", .glo "_law_pick", .glo "_law_spoilt", .glo "_law_judged", .free "list", .free "dict", .glo "_law_draw", .glo "_law_cut_right", .glo "_law_odd_right", .glo "is_cut", .glo "Lots", .mkr "Lots", .glo "_law_films", .free "tuple", .glo "_law_is_taking", .free "repr", .glo "is_choice", .glo "is_taking", .free "divmod", .free "sum", .free "any", .cls "Lots", .meth "Lots" "films_of", .meth "Lots" "wanted_by", .glo "are_names", .meth "Lots" "__contains__", .glo "want_lots", .noat "Lots" "own_lots", .meth "Lots" "all_houses", .glo "is_taking_by", .meth "Lots" "__iter__", .glo "is_list", .glo "is_name", .free "set", .free "isinstance", .free "str", .free "enumerate", .glo "is_lot", .glo "is_films_of", .free "iter", .int "MOST_LETTERS" (6), .str "ZERO" "day", .str "LETTERS" "abcdefghijklmnopqrstuvwxyz", .glo "is_count", .glo "is_integer", .free "bool"]
def fb : List Fb := [.conI "Lots" "MOST_HOUSES" 8, .conI "Lots" "MOST_FILMS" 8]
abbrev WD (K : PySem.W.Frag) (mg : Str → Option Value) : Prop := Wd fa fn fb K mg
section
variable {K : PySem.W.Frag} {mg : Str → Option Value}
theorem f_len (V : WD K mg) : mg "len" = none := V.free 1
theorem f_min (V : WD K mg) : mg "min" = none := V.free 2
theorem f_max (V : WD K mg) : mg "max" = none := V.free 3
theorem f_range (V : WD K mg) : mg "range" = none := V.free 4
theorem g_law_pot (V : WD K mg) : mg "_law_pot" = some (.ref (He.ga K "_law_pot")) := V.glo 5
theorem g_law_right (V : WD K mg) : mg "_law_right" = some (.ref (He.ga K "_law_right")) := V.glo 6
theorem f_all (V : WD K mg) : mg "all" = none := V.free 7
theorem f_int (V : WD K mg) : mg "int" = none := V.free 8
theorem f_abs (V : WD K mg) : mg "abs" = none := V.free 9
theorem g_law_rows (V : WD K mg) : mg "_law_rows" = some (.ref (He.ga K "_law_rows")) := V.glo 10
theorem g_law_takings (V : WD K mg) : mg "_law_takings" = some (.ref (He.ga K "_law_takings")) := V.glo 11
theorem g_law_lots (V : WD K mg) : mg "_law_lots" = some (.ref (He.ga K "_law_lots")) := V.glo 12
theorem f_sorted (V : WD K mg) : mg "sorted" = none := V.free 13
theorem g_law_pick (V : WD K mg) : mg "_law_pick" = some (.ref (He.ga K "_law_pick")) := V.glo 14
theorem g_law_spoilt (V : WD K mg) : mg "_law_spoilt" = some (.ref (He.ga K "_law_spoilt")) := V.glo 15
theorem g_law_judged (V : WD K mg) : mg "_law_judged" = some (.ref (He.ga K "_law_judged")) := V.glo 16
theorem f_list (V : WD K mg) : mg "list" = none := V.free 17
theorem f_dict (V : WD K mg) : mg "dict" = none := V.free 18
theorem g_law_draw (V : WD K mg) : mg "_law_draw" = some (.ref (He.ga K "_law_draw")) := V.glo 19
theorem g_law_cut_right (V : WD K mg) : mg "_law_cut_right" = some (.ref (He.ga K "_law_cut_right")) := V.glo 20
theorem g_law_odd_right (V : WD K mg) : mg "_law_odd_right" = some (.ref (He.ga K "_law_odd_right")) := V.glo 21
theorem g_is_cut (V : WD K mg) : mg "is_cut" = some (.ref (He.ga K "is_cut")) := V.glo 22
theorem g_Lots (V : WD K mg) : mg "Lots" = some (.ref (He.ga K "Lots")) := V.glo 23
theorem mk_Lots (V : WD K mg) : Mk K (He.ga K "Lots") (He.ma K (He.ga K "Lots") "__init__") := V.mkr 24
theorem g_law_films (V : WD K mg) : mg "_law_films" = some (.ref (He.ga K "_law_films")) := V.glo 25
theorem f_tuple (V : WD K mg) : mg "tuple" = none := V.free 26
theorem g_law_is_taking (V : WD K mg) : mg "_law_is_taking" = some (.ref (He.ga K "_law_is_taking")) := V.glo 27
theorem f_repr (V : WD K mg) : mg "repr" = none := V.free 28
theorem g_is_choice (V : WD K mg) : mg "is_choice" = some (.ref (He.ga K "is_choice")) := V.glo 29
theorem g_is_taking (V : WD K mg) : mg "is_taking" = some (.ref (He.ga K "is_taking")) := V.glo 30
theorem f_divmod (V : WD K mg) : mg "divmod" = none := V.free 31
theorem f_sum (V : WD K mg) : mg "sum" = none := V.free 32
theorem f_any (V : WD K mg) : mg "any" = none := V.free 33
theorem cl_Lots (V : WD K mg) : Cls K (He.ga K "Lots") := V.cls 34
theorem m_Lots_films_of (V : WD K mg) : Meth K (He.ga K "Lots") "films_of" (He.ma K (He.ga K "Lots") "films_of") := V.meth 35
theorem m_Lots_wanted_by (V : WD K mg) : Meth K (He.ga K "Lots") "wanted_by" (He.ma K (He.ga K "Lots") "wanted_by") := V.meth 36
theorem g_are_names (V : WD K mg) : mg "are_names" = some (.ref (He.ga K "are_names")) := V.glo 37
theorem m_Lots_contains (V : WD K mg) : Meth K (He.ga K "Lots") "__contains__" (He.ma K (He.ga K "Lots") "__contains__") := V.meth 38
theorem g_want_lots (V : WD K mg) : mg "want_lots" = some (.ref (He.ga K "want_lots")) := V.glo 39
theorem cn_Lots_MOST_HOUSES (V : WD K mg) : ∃ t, Con K (He.ga K "Lots") "MOST_HOUSES" (.int 8) (.int 8 t) := fb_conI (V.fbs 0)
theorem cn_Lots_MOST_FILMS (V : WD K mg) : ∃ t, Con K (He.ga K "Lots") "MOST_FILMS" (.int 8) (.int 8 t) := fb_conI (V.fbs 1)
theorem na_Lots_own_lots (V : WD K mg) : ∀ c ∈ (["Lots"] : List Str), ∀ C, mg c = some (.ref C) → Cls K C ∧ NoAttr K C "own_lots" := by
  intro c hc C hC
  cases (List.mem_singleton.mp hc)
  rw [g_Lots V] at hC
  cases hC
  exact ⟨cl_Lots V, V.noat 40⟩
theorem m_Lots_all_houses (V : WD K mg) : Meth K (He.ga K "Lots") "all_houses" (He.ma K (He.ga K "Lots") "all_houses") := V.meth 41
theorem g_is_taking_by (V : WD K mg) : mg "is_taking_by" = some (.ref (He.ga K "is_taking_by")) := V.glo 42
theorem m_Lots_iter (V : WD K mg) : Meth K (He.ga K "Lots") "__iter__" (He.ma K (He.ga K "Lots") "__iter__") := V.meth 43
theorem g_is_list (V : WD K mg) : mg "is_list" = some (.ref (He.ga K "is_list")) := V.glo 44
theorem g_is_name (V : WD K mg) : mg "is_name" = some (.ref (He.ga K "is_name")) := V.glo 45
theorem f_set (V : WD K mg) : mg "set" = none := V.free 46
theorem f_isinstance (V : WD K mg) : mg "isinstance" = none := V.free 47
theorem f_str (V : WD K mg) : mg "str" = none := V.free 48
theorem f_enumerate (V : WD K mg) : mg "enumerate" = none := V.free 49
theorem g_is_lot (V : WD K mg) : mg "is_lot" = some (.ref (He.ga K "is_lot")) := V.glo 50
theorem g_is_films_of (V : WD K mg) : mg "is_films_of" = some (.ref (He.ga K "is_films_of")) := V.glo 51
theorem f_iter (V : WD K mg) : mg "iter" = none := V.free 52
theorem gi_MOST_LETTERS (V : WD K mg) : ∃ t, mg "MOST_LETTERS" = some (.int (6) t) := V.int 53
theorem gs_ZERO (V : WD K mg) : ∃ t, mg "ZERO" = some (.str "day" t) := V.str 54
theorem gs_LETTERS (V : WD K mg) : ∃ t, mg "LETTERS" = some (.str "abcdefghijklmnopqrstuvwxyz" t) := V.str 55
theorem g_is_count (V : WD K mg) : mg "is_count" = some (.ref (He.ga K "is_count")) := V.glo 56
theorem g_is_integer (V : WD K mg) : mg "is_integer" = some (.ref (He.ga K "is_integer")) := V.glo 57
theorem f_bool (V : WD K mg) : mg "bool" = none := V.free 58
end
section
variable {P : Program} {w : World} {K : PySem.W.Frag} {mg : Str → Option Value} {base : Heap}
/-! lpot -/
def s_lpot : En → Res (D × En) :=
  (nSeq (sSet 2 (eBin addI (bOf (eBin mulI (bOf (eC (.int 17))) (bVar 1))) (bOf (eC (.int 11)))))
  (nSeq (sIf (tOfE (eBin ltI (bVar 1) (bOf (eUn (orU lenD lenK) (bVar 0))))) (sSet 2 (eUn absD (bOf (eBin ixG (bVar 0) (bVar 1))))) sNop)
  (eLst (aCons (eBin max2D (bOf (eC (.int 0))) (bOf (eBin subI (bVar 2) (bOf (eBin powI (bOf (eC (.int 10))) (bOf (eC (.int 18)))))))) (aCons (eBin addI (bOf (eBin modI (bOf (eBin mulI (bOf (eUn intD (bOf (eBin addI (bOf (eBin modI (bOf (eUn intD (bVar 2))) (bOf (eC (.int 2147483543))))) (bOf (eC (.int 7))))))) (bOf (eBin powI (bOf (eBin addI (bOf (eBin mulI (bOf (eC (.int 2))) (bVar 1))) (bOf (eC (.int 3))))) (bOf (eC (.int 3))))))) (bOf (eC (.int 2147483489))))) (bOf (eC (.int 1)))) aNil)))))
def n_lpot : List D → Res D := runN 3 2 s_lpot
abbrev nm_lpot : List Str := ["_law_script", "_law_k", "_law_spot"]
theorem sc_lpot : FnScope nm_lpot ["_law_script", "_law_k"] (defScope (top 27)) := ⟨rfl, rfl, rfl, by decide +kernel, rfl, by decide +kernel, by decide +kernel⟩
theorem ok_lpot (V : WD K mg) (fA : Addr) : BodyNew P w K mg base 0 nm_lpot "_law_pot" (defScope (top 27)) fA (defBody (top 27)) s_lpot := by
  intro cdv A outer s H E hr
  have nd := (sc_lpot).nd
  exact (dns_cons (ds_set (i := 2) nd (de_add (DE.db (de_mul (DE.db de_int) (db_var (i := 1)))) (DE.db de_int)))
  (dns_cons (ds_if (DC.dt (dc_lt (db_var (i := 1)) (DE.db (de_len  (f_len V) (db_var (i := 0)))))) (dss_one (ds_set (i := 2) nd (de_abs  (f_abs V) (DE.db (de_at (db_var (i := 0)) (db_var (i := 1))))))) dss_nil)
  (dns_ret (dn_lst (da_cons (de_max2 rfl (f_max V) (DE.db de_int) (DE.db (de_sub (db_var (i := 2)) (DE.db (de_pow (DE.db de_int) (DE.db de_int)))))) (da_cons (de_add (DE.db (de_mod (DE.db (de_mul (DE.db (de_int1  (f_int V) (DE.db (de_add (DE.db (de_mod (DE.db (de_int1  (f_int V) (db_var (i := 2)))) (DE.db de_int))) (DE.db de_int))))) (DE.db (de_pow (DE.db (de_add (DE.db (de_mul (DE.db de_int) (db_var (i := 1)))) (DE.db de_int))) (DE.db de_int))))) (DE.db de_int))) (DE.db de_int)) da_nil))))))
theorem c_lpot (V : WD K mg) : CalN P w K mg base 1 (He.ga K "_law_pot") n_lpot := by
  obtain ⟨fd, F⟩ := V.d.def_ 0 (d := df_0) rfl
  exact cal_N F sc_lpot (ok_lpot V _) (fun _ _ _ _ _ _ us hl => match us, hl with | [_, _], _ => rfl)
/-! lfilms -/
def e_lfilms_1 : En → Res (D × En) :=
  (eLc (iSeq (eBin ixG (bVar 2) (bOf (eC (.int 1))))) (gNm 3) (tOfE (eBin ninLst (bVar 3) (bVar 1))) (eVar 3) [3])
def s_lfilms_2_b : En → SR :=
  (sExtend 1 e_lfilms_1)
def s_lfilms_2 : En → SR :=
  (sFor (iSeq (eVar 0)) (gNm 2) s_lfilms_2_b)
def s_lfilms : En → SR :=
  (sSeq (sOwn 1 (eLst aNil))
  (sSeq s_lfilms_2
  (sRet (eUn sortedD (bVar 1)))))
def d_lfilms : List D → Res D := runF 4 1 s_lfilms
abbrev nm_lfilms : List Str := ["_law_rows_here", "_law_found", "_law_entry", "_law_film"]
theorem sc_lfilms : FnScope nm_lfilms ["_law_rows_here"] (defScope (top 33)) := ⟨rfl, rfl, rfl, by decide +kernel, rfl, by decide +kernel, by decide +kernel⟩
theorem ok_lfilms (V : WD K mg) (fA : Addr) : BodyOk P w K mg base 0 nm_lfilms "_law_films" (defScope (top 33)) fA (defBody (top 33)) s_lfilms := by
  intro cdv A outer s H E hr
  have nd := (sc_lfilms).nd
  exact (dss_cons (ds_own (i := 1) nd (dn_lst da_nil))
  (dss_cons (ds_for own_def rfl (di_seq (de_var (i := 0))) (dg_name (i := 2) (vs := [2]) (by decide) nd) (dss_one (ds_extend (i := 1) (DN.de (dn_lc (own := [("_law_film", 3)]) rfl nd (di_seq (de_at (db_var (i := 2)) (DE.db de_int))) (by refine ⟨rfl, ?_, ?_, ?_, ?_⟩ <;> first | exact of_decide_eq_true (by kernel_rfl) | decide +kernel) (fun _ _ _ _ _ => (dg_name (i := 3) (vs := [3]) (by decide) nd)) (fun _ _ _ _ _ => (dts_one (DC.dt (dc_ninL hr (db_var (i := 3)) (db_var (i := 1)))))) (fun _ _ _ _ _ => (de_var (i := 3))))))))
  (dss_one (ds_ret (DN.de (dn_sorted hr (f_sorted V) (db_var (i := 1))))))))
theorem c_lfilms (V : WD K mg) : CalA P w K mg base 1 (He.ga K "_law_films") d_lfilms := by
  obtain ⟨fd, F⟩ := V.d.def_ 1 (d := df_1) rfl
  exact cal_A F sc_lfilms (ok_lfilms V _) (fun _ _ _ _ _ _ us hl => match us, hl with | [_], _ => rfl)
/-! Lots_contains -/
def s_Lots_contains : En → SR :=
  (sRet (eAnd (eUn (isiB ["str"] []) (bVar 1)) (eBin dinD (bVar 1) (bOf (eUn (fldD ["Lots"] "own_lots") (bVar 0))))))
def d_Lots_contains : List D → Res D := runF 2 2 s_Lots_contains
abbrev nm_Lots_contains : List Str := ["self", "value"]
theorem sc_Lots_contains : FnScope nm_Lots_contains ["self", "value"] (defScope (mth 20 11)) := ⟨rfl, rfl, rfl, by decide +kernel, rfl, by decide +kernel, by decide +kernel⟩
theorem ok_Lots_contains (V : WD K mg) (fA : Addr) : BodyOk P w K mg base 0 nm_Lots_contains "Lots.__contains__" (defScope (mth 20 11)) fA (defBody (mth 20 11)) s_Lots_contains := by
  intro cdv A outer s H E hr
  have nd := (sc_Lots_contains).nd
  exact (dss_one (ds_ret (de_and (de_isi1 (cs := []) rfl (f_isinstance V) PyProof.Rows.boot_isinstance rfl (f_str V) PyProof.Rows.boot_str (by decide) ⟨fun _ h => nomatch h⟩ (db_var (i := 1))) (de_one (DC.de (dc_inK hr (db_var (i := 1)) (DE.db (de_fld (na_Lots_own_lots V) (db_var (i := 0))))))))))
theorem c_Lots_contains (V : WD K mg) : CalA P w K mg base 1 (He.ma K (He.ga K "Lots") "__contains__") d_Lots_contains := by
  obtain ⟨fd, F⟩ := V.d.def_ 2 (d := df_2) rfl
  exact cal_A F sc_Lots_contains (ok_Lots_contains V _) (fun _ _ _ _ _ _ us hl => match us, hl with | [_, _], _ => rfl)
/-! Lots_films_of -/
def s_Lots_films_of : En → SR :=
  (sRet (eUn listD (bOf (eBin ixG (bOf (eBin dgetD (bOf (eUn (fldD ["Lots"] "own_lots") (bVar 0))) (bVar 1))) (bOf (eC (.int 0)))))))
def d_Lots_films_of : List D → Res D := runF 2 2 s_Lots_films_of
abbrev nm_Lots_films_of : List Str := ["self", "house"]
theorem sc_Lots_films_of : FnScope nm_Lots_films_of ["self", "house"] (defScope (mth 20 4)) := ⟨rfl, rfl, rfl, by decide +kernel, rfl, by decide +kernel, by decide +kernel⟩
theorem ok_Lots_films_of (V : WD K mg) (fA : Addr) : BodyOk P w K mg base 0 nm_Lots_films_of "Lots.films_of" (defScope (mth 20 4)) fA (defBody (mth 20 4)) s_Lots_films_of := by
  intro cdv A outer s H E hr
  have nd := (sc_Lots_films_of).nd
  exact (dss_one (ds_ret (DN.de (dn_list1  (f_list V) (DE.db (de_at (DE.db (de_atK hr (DE.db (de_fld (na_Lots_own_lots V) (db_var (i := 0)))) (db_var (i := 1)))) (DE.db de_int)))))))
theorem c_Lots_films_of (V : WD K mg) : CalA P w K mg base 1 (He.ma K (He.ga K "Lots") "films_of") d_Lots_films_of := by
  obtain ⟨fd, F⟩ := V.d.def_ 3 (d := df_3) rfl
  exact cal_A F sc_Lots_films_of (ok_Lots_films_of V _) (fun _ _ _ _ _ _ us hl => match us, hl with | [_, _], _ => rfl)
/-! Lots_wanted_by -/
def s_Lots_wanted_by : En → SR :=
  (sRet (eBin ixG (bOf (eBin dgetD (bOf (eUn (fldD ["Lots"] "own_lots") (bVar 0))) (bVar 1))) (bOf (eC (.int 1)))))
def d_Lots_wanted_by : List D → Res D := runF 2 2 s_Lots_wanted_by
abbrev nm_Lots_wanted_by : List Str := ["self", "house"]
theorem sc_Lots_wanted_by : FnScope nm_Lots_wanted_by ["self", "house"] (defScope (mth 20 5)) := ⟨rfl, rfl, rfl, by decide +kernel, rfl, by decide +kernel, by decide +kernel⟩
theorem ok_Lots_wanted_by (V : WD K mg) (fA : Addr) : BodyOk P w K mg base 0 nm_Lots_wanted_by "Lots.wanted_by" (defScope (mth 20 5)) fA (defBody (mth 20 5)) s_Lots_wanted_by := by
  intro cdv A outer s H E hr
  have nd := (sc_Lots_wanted_by).nd
  exact (dss_one (ds_ret (de_at (DE.db (de_atK hr (DE.db (de_fld (na_Lots_own_lots V) (db_var (i := 0)))) (db_var (i := 1)))) (DE.db de_int))))
theorem c_Lots_wanted_by (V : WD K mg) : CalA P w K mg base 1 (He.ma K (He.ga K "Lots") "wanted_by") d_Lots_wanted_by := by
  obtain ⟨fd, F⟩ := V.d.def_ 4 (d := df_4) rfl
  exact cal_A F sc_Lots_wanted_by (ok_Lots_wanted_by V _) (fun _ _ _ _ _ _ us hl => match us, hl with | [_, _], _ => rfl)
/-! is_list -/
def s_is_list : En → SR :=
  (sRet (eUn (isiB ["list", "tuple"] []) (bOf (eVar 0))))
def d_is_list : List D → Res D := runF 1 1 s_is_list
abbrev nm_is_list : List Str := ["value"]
theorem sc_is_list : FnScope nm_is_list ["value"] (defScope (top 7)) := ⟨rfl, rfl, rfl, by decide +kernel, rfl, by decide +kernel, by decide +kernel⟩
theorem ok_is_list (V : WD K mg) (fA : Addr) : BodyOk P w K mg base 0 nm_is_list "is_list" (defScope (top 7)) fA (defBody (top 7)) s_is_list := by
  intro cdv A outer s H E hr
  have nd := (sc_is_list).nd
  exact (dss_one (ds_ret (de_isiT (ns := ["list", "tuple"]) (cs := []) rfl (f_isinstance V) PyProof.Rows.boot_isinstance (pa_ty1 rfl (f_list V) PyProof.Rows.boot_list (pa_ty1 rfl (f_tuple V) PyProof.Rows.boot_tuple pa_ty0)) (by decide) (by decide) ⟨fun _ h => nomatch h⟩ (de_var (i := 0)))))
theorem c_is_list (V : WD K mg) : CalA P w K mg base 1 (He.ga K "is_list") d_is_list := by
  obtain ⟨fd, F⟩ := V.d.def_ 5 (d := df_5) rfl
  exact cal_A F sc_is_list (ok_is_list V _) (fun _ _ _ _ _ _ us hl => match us, hl with | [_], _ => rfl)
/-! is_name -/
def s_is_name_1 : En → SR :=
  (sIf (tOrD (tNotD (tOfE (eUn (isiB ["str"] []) (bVar 0)))) (tOrD (tNotD (tOfE (eChain leI leI (bOf (eC (.int 1))) (bOf (eUn (orU lenD lenK) (bVar 0))) (bOf (eC (.int (6))))))) (tOfE (eBin eqD (bVar 0) (bOf (eC (.str "day"))))))) (sRet (eC (.bl false))) sNop)
def e_is_name_1 : En → Res (D × En) :=
  (eLc (iSeq (eVar 0)) (gNm 1) tYesD (eBin inStr (bVar 1) (bOf (eC (.str "abcdefghijklmnopqrstuvwxyz")))) [1])
def s_is_name : En → SR :=
  (sSeq s_is_name_1
  (sRet (eUn allD (bOf e_is_name_1))))
def d_is_name : List D → Res D := runF 2 1 s_is_name
abbrev nm_is_name : List Str := ["value", "letter"]
theorem sc_is_name : FnScope nm_is_name ["value"] (defScope (top 8)) := ⟨rfl, rfl, rfl, by decide +kernel, rfl, by decide +kernel, by decide +kernel⟩
theorem ok_is_name (V : WD K mg) (fA : Addr) : BodyOk P w K mg base 0 nm_is_name "is_name" (defScope (top 8)) fA (defBody (top 8)) s_is_name := by
  intro cdv A outer s H E hr
  have nd := (sc_is_name).nd
  exact (dss_cons (ds_if (DW.dt (dw_or (dt_not (dt_val (de_isi1 (cs := []) rfl (f_isinstance V) PyProof.Rows.boot_isinstance rfl (f_str V) PyProof.Rows.boot_str (by decide) ⟨fun _ h => nomatch h⟩ (db_var (i := 0))))) (dw_or (dt_not (dt_chain op_le ov_le op_le ov_le (DE.db de_int) (DE.db (de_len  (f_len V) (db_var (i := 0)))) (DE.db (de_gint rfl (gi_MOST_LETTERS V))))) (dw_or1 (DC.dt (dc_eq hr (db_var (i := 0)) (DE.db (de_gstr rfl (gs_ZERO V))))))))) (dss_one (ds_ret de_bl)) dss_nil)
  (dss_one (ds_ret (de_all rfl (f_all V) (DE.db (DN.de (dn_lc (own := [("letter", 1)]) rfl nd (di_seq (de_var (i := 0))) (by refine ⟨rfl, ?_, ?_, ?_, ?_⟩ <;> first | exact of_decide_eq_true (by kernel_rfl) | decide +kernel) (fun _ _ _ _ _ => (dg_name (i := 1) (vs := [1]) (by decide) nd)) (fun _ _ _ _ _ => dts_nil) (fun _ _ _ _ _ => (DC.de (dc_inS (db_var (i := 1)) (DE.db (de_gstr rfl (gs_LETTERS V)))))))))))))
theorem c_is_name (V : WD K mg) : CalA P w K mg base 1 (He.ga K "is_name") d_is_name := by
  obtain ⟨fd, F⟩ := V.d.def_ 6 (d := df_6) rfl
  exact cal_A F sc_is_name (ok_is_name V _) (fun _ _ _ _ _ _ us hl => match us, hl with | [_], _ => rfl)
/-! are_names -/
def e_are_names_1 : En → Res (D × En) :=
  (eLc (iSeq (eVar 0)) (gNm 1) tYesD (eCall d_is_name (aCons (eVar 1) aNil)) [1])
def s_are_names_1 : En → SR :=
  (sIf (tOrD (tNotD (tOfE (eCall d_is_list (aCons (eVar 0) aNil)))) (tNotD (tOfE (eUn allD (bOf e_are_names_1))))) (sRet (eC (.bl false))) sNop)
def s_are_names : En → SR :=
  (sSeq s_are_names_1
  (sRet (eBin eqD (bOf (eUn (orU lenSetD lenSetT) (bOf (eVar 0)))) (bOf (eUn (orU lenD lenK) (bVar 0))))))
def d_are_names : List D → Res D := runF 2 1 s_are_names
abbrev nm_are_names : List Str := ["value", "name"]
theorem sc_are_names : FnScope nm_are_names ["value"] (defScope (top 9)) := ⟨rfl, rfl, rfl, by decide +kernel, rfl, by decide +kernel, by decide +kernel⟩
theorem ok_are_names (V : WD K mg) (fA : Addr) : BodyOk P w K mg base 1 nm_are_names "are_names" (defScope (top 9)) fA (defBody (top 9)) s_are_names := by
  intro cdv A outer s H E hr
  have nd := (sc_are_names).nd
  exact (dss_cons (ds_if (DW.dt (dw_or (dt_not (dt_val (de_call (c_is_list V) tk_def hr (by decide) rfl (g_is_list V) (da_cons (de_var (i := 0)) da_nil)))) (dw_or1 (dt_not (dt_val (de_all rfl (f_all V) (DE.db (DN.de (dn_lc (own := [("name", 1)]) rfl nd (di_seq (de_var (i := 0))) (by refine ⟨rfl, ?_, ?_, ?_, ?_⟩ <;> first | exact of_decide_eq_true (by kernel_rfl) | decide +kernel) (fun _ _ _ _ _ => (dg_name (i := 1) (vs := [1]) (by decide) nd)) (fun _ _ _ _ _ => dts_nil) (fun _ _ _ _ _ => (de_call (c_is_name V) takes0 hr (by decide) rfl (g_is_name V) (da_cons (de_var (i := 1)) da_nil)))))))))))) (dss_one (ds_ret de_bl)) dss_nil)
  (dss_one (ds_ret (DC.de (dc_eq hr (DE.db (de_lenSetA rfl (f_len V) (f_set V) (de_var (i := 0)))) (DE.db (de_len  (f_len V) (db_var (i := 0)))))))))
theorem c_are_names (V : WD K mg) : CalA P w K mg base 2 (He.ga K "are_names") d_are_names := by
  obtain ⟨fd, F⟩ := V.d.def_ 7 (d := df_7) rfl
  exact cal_A F sc_are_names (ok_are_names V _) (fun _ _ _ _ _ _ us hl => match us, hl with | [_], _ => rfl)
/-! is_cut -/
def e_is_cut_1 : En → Res (D × En) :=
  (eLc (iSeq (eVar 1)) (gNm 2) tYesD (eMeth "Lots" "wanted_by" d_Lots_wanted_by (eVar 0) (aCons (eVar 2) aNil)) [2])
def s_is_cut_set : En → SR :=
  (sSetLt 3 (eSc2 (iSeq (eVar 1)) (gNm 2) (iSeq (eMeth "Lots" "films_of" d_Lots_films_of (eVar 0) (aCons (eVar 2) aNil))) (gNm 4) (eVar 4) [2, 4] [4]) (eUn sumD (bOf e_is_cut_1)))
def s_is_cut_1 : En → SR :=
  (sIf (tOrD (tNotD (tOfE (eCall d_are_names (aCons (eVar 1) aNil)))) (tOrD (tOfE (eBin eqD (bOf (eUn (orU lenD lenK) (bVar 1))) (bOf (eC (.int 0))))) (tOfE (eBin neD (bOf (eUn (orU listD listK) (bVar 1))) (bOf (eUn (orU (orU sortedD sortedT) sortedK) (bVar 1))))))) (sRet (eC (.bl false))) sNop)
def e_is_cut_2 : En → Res (D × En) :=
  (eLc (iSeq (eVar 1)) (gNm 2) tYesD (eOwnR "Lots" toB d_Lots_contains (eVar 2) (eVar 0)) [2])
def s_is_cut_2 : En → SR :=
  (sIf (tNotD (tOfE (eUn allD (bOf e_is_cut_2)))) (sRet (eC (.bl false))) sNop)
def s_is_cut : En → SR :=
  (sSeq s_is_cut_1
  (sSeq s_is_cut_2
  s_is_cut_set))
def d_is_cut : List D → Res D := runF 5 2 s_is_cut
abbrev nm_is_cut : List Str := ["lots", "value", "house", "films", "film"]
theorem sc_is_cut : FnScope nm_is_cut ["lots", "value"] (defScope (top 25)) := ⟨rfl, rfl, rfl, by decide +kernel, rfl, by decide +kernel, by decide +kernel⟩
theorem ok_is_cut (V : WD K mg) (fA : Addr) : BodyOk P w K mg base 2 nm_is_cut "is_cut" (defScope (top 25)) fA (defBody (top 25)) s_is_cut := by
  intro cdv A outer s H E hr
  have nd := (sc_is_cut).nd
  exact (dss_cons (ds_if (DW.dt (dw_or (dt_not (dt_val (de_call (c_are_names V) tk_def hr (by decide) rfl (g_are_names V) (da_cons (de_var (i := 1)) da_nil)))) (dw_or (DC.dt (dc_eq hr (DE.db (de_len  (f_len V) (db_var (i := 1)))) (DE.db de_int))) (dw_or1 (DC.dt (dc_ne hr (DE.db (DN.de (dn_listA rfl (f_list V) (db_var (i := 1))))) (DE.db (DN.de (dn_sortedB rfl hr (f_sorted V) (db_var (i := 1))))))))))) (dss_one (ds_ret de_bl)) dss_nil)
  (dss_cons (ds_if (dt_not (dt_val (de_all rfl (f_all V) (DE.db (DN.de (dn_lc (own := [("house", 2)]) rfl nd (di_seq (de_var (i := 1))) (by refine ⟨rfl, ?_, ?_, ?_, ?_⟩ <;> first | exact of_decide_eq_true (by kernel_rfl) | decide +kernel) (fun _ _ _ _ _ => (dg_name (i := 2) (vs := [2]) (by decide) nd)) (fun _ _ _ _ _ => dts_nil) (fun _ _ _ _ _ => (DC.de (dc_inO (c := "Lots") (c_Lots_contains V) takes0 hr (by decide) (g_Lots V) (m_Lots_contains V) (de_var (i := 2)) (de_var (i := 0))))))))))) (dss_one (ds_ret de_bl)) dss_nil)
  (dss_setLt (i := 3) (own := [("house", 2), ("film", 4)]) (vs1 := [4]) rfl nd (di_seq (de_var (i := 1))) (by refine ⟨rfl, ?_, ?_, ?_, ?_⟩ <;> first | exact of_decide_eq_true (by kernel_rfl) | decide +kernel) (by decide) (fun _ _ _ _ _ => (dg_name (i := 2) (vs := [2, 4]) (by decide) nd)) (fun _ _ _ _ _ => (di_seq (de_meth (c := "Lots") (c_Lots_films_of V) takes0 hr (by decide) (g_Lots V) (cl_Lots V) (m_Lots_films_of V) (de_var (i := 0)) (da_cons (de_var (i := 2)) da_nil)))) (fun _ _ _ _ _ => (dg_name (i := 4) (vs := [4]) (by decide) nd)) (fun _ _ _ _ _ => (de_var (i := 4))) (f_len V) (de_sum rfl (f_sum V) (DE.db (DN.de (dn_lc (own := [("house", 2)]) rfl nd (di_seq (de_var (i := 1))) (by refine ⟨rfl, ?_, ?_, ?_, ?_⟩ <;> first | exact of_decide_eq_true (by kernel_rfl) | decide +kernel) (fun _ _ _ _ _ => (dg_name (i := 2) (vs := [2]) (by decide) nd)) (fun _ _ _ _ _ => dts_nil) (fun _ _ _ _ _ => (de_meth (c := "Lots") (c_Lots_wanted_by V) takes0 hr (by decide) (g_Lots V) (cl_Lots V) (m_Lots_wanted_by V) (de_var (i := 0)) (da_cons (de_var (i := 2)) da_nil))))))) rfl)))
theorem c_is_cut (V : WD K mg) : CalA P w K mg base 3 (He.ga K "is_cut") d_is_cut := by
  obtain ⟨fd, F⟩ := V.d.def_ 8 (d := df_8) rfl
  exact cal_A F sc_is_cut (ok_is_cut V _) (fun _ _ _ _ _ _ us hl => match us, hl with | [_, _], _ => rfl)
def dk_is_cut_0_value_lots : List D → List D → Res D := fun as zs => d_is_cut (pickL [(2, 1), (2, 0)] as [] zs)
theorem ka_is_cut_0_value_lots (V : WD K mg) : KalA P w K mg base 3 (He.ga K "is_cut") 0 ["value", "lots"] dk_is_cut_0_value_lots := by
  obtain ⟨fd, F⟩ := V.d.def_ 8 (d := df_8) rfl
  exact kal_A [(2, 1), (2, 0)] F sc_is_cut (ok_is_cut V _) 0 ["value", "lots"] (fun _ _ _ _ _ _ us ws h1 h2 => match us, ws, h1, h2 with | [], [_, _], _, _ => rfl)
/-! lcut_right -/
def e_lcut_right_1 : En → Res (D × En) :=
  (eLc (iSeq (eVar 0)) (gNm 4) (tOfE (eBin inLst (bOf (eBin ixG (bVar 4) (bOf (eC (.int 0))))) (bVar 2))) (eVar 4) [4])
def e_lcut_right_2 : En → Res (D × En) :=
  (eLc (iSeq (eVar 3)) (gNm 4) tYesD (eBin ixG (bVar 4) (bOf (eC (.int 2)))) [4])
def s_lcut_right_4 : En → SR :=
  (sRet (eBin eqD (bOf (eUn (orU reprB reprD) (bOf (eLst (aCons (eCall d_is_cut (aCons (eVar 1) (aCons (eVar 2) aNil))) (aCons (eCallK 0 2 dk_is_cut_0_value_lots aNil (aCons (eUn tupleD (bOf (eVar 2))) (aCons (eVar 1) aNil))) aNil)))))) (bOf (eUn (orU reprB reprD) (bOf (eLst (aCons (eVar 5) (aCons (eVar 5) aNil))))))))
def s_lcut_right : En → SR :=
  (sSeq (sSet 3 e_lcut_right_1)
  (sSeq (sSet 5 (eAnd (eBin neD (bVar 2) (bOf (eLst aNil))) (eAnd (eBin eqD (bVar 2) (bOf (eUn sortedD (bVar 2)))) (eBin eqD (bOf (eUn (orU lenD lenK) (bVar 3))) (bOf (eUn (orU lenD lenK) (bVar 2)))))))
  (sSeq (sSet 5 (eAnd (eVar 5) (eBin ltI (bOf (eUn (orU lenD lenK) (bOf (eCall d_lfilms (aCons (eVar 3) aNil))))) (bOf (eUn sumD (bOf e_lcut_right_2))))))
  s_lcut_right_4)))
def d_lcut_right : List D → Res D := runF 6 3 s_lcut_right
abbrev nm_lcut_right : List Str := ["_law_rows_here", "_law_offer", "_law_told", "_law_some", "_law_entry", "_law_due"]
theorem sc_lcut_right : FnScope nm_lcut_right ["_law_rows_here", "_law_offer", "_law_told"] (defScope (top 38)) := ⟨rfl, rfl, rfl, by decide +kernel, rfl, by decide +kernel, by decide +kernel⟩
theorem ok_lcut_right (V : WD K mg) (fA : Addr) : BodyOk P w K mg base 3 nm_lcut_right "_law_cut_right" (defScope (top 38)) fA (defBody (top 38)) s_lcut_right := by
  intro cdv A outer s H E hr
  have nd := (sc_lcut_right).nd
  exact (dss_cons (ds_setLc (i := 3) (own := [("_law_entry", 4)]) rfl nd (di_seq (de_var (i := 0))) (by refine ⟨rfl, ?_, ?_, ?_, ?_⟩ <;> first | exact of_decide_eq_true (by kernel_rfl) | decide +kernel) (fun _ _ _ _ _ => (dg_name (i := 4) (vs := [4]) (by decide) nd)) (fun _ _ _ _ _ => (dts_one (DC.dt (dc_inL hr (DE.db (de_at (db_var (i := 4)) (DE.db de_int))) (db_var (i := 2)))))) (fun _ _ _ _ _ => (de_var (i := 4))) rfl)
  (dss_cons (ds_set (i := 5) nd (de_and (DC.de (dc_ne hr (db_var (i := 2)) (DE.db (DN.de (dn_lst da_nil))))) (de_and (DC.de (dc_eq hr (db_var (i := 2)) (DE.db (DN.de (dn_sorted hr (f_sorted V) (db_var (i := 2))))))) (de_one (DC.de (dc_eq hr (DE.db (de_len  (f_len V) (db_var (i := 3)))) (DE.db (de_len  (f_len V) (db_var (i := 2))))))))))
  (dss_cons (ds_set (i := 5) nd (de_and (de_var (i := 5)) (de_one (DC.de (dc_lt (DE.db (de_len  (f_len V) (DE.db (de_call (c_lfilms V) tk_def hr (by decide) rfl (g_law_films V) (da_cons (de_var (i := 3)) da_nil))))) (DE.db (de_sum rfl (f_sum V) (DE.db (DN.de (dn_lc (own := [("_law_entry", 4)]) rfl nd (di_seq (de_var (i := 3))) (by refine ⟨rfl, ?_, ?_, ?_, ?_⟩ <;> first | exact of_decide_eq_true (by kernel_rfl) | decide +kernel) (fun _ _ _ _ _ => (dg_name (i := 4) (vs := [4]) (by decide) nd)) (fun _ _ _ _ _ => dts_nil) (fun _ _ _ _ _ => (de_at (db_var (i := 4)) (DE.db de_int)))))))))))))
  (dss_one (ds_ret (DC.de (dc_eq hr (DE.db (de_reprD hr (f_repr V) (DE.db (DN.de (dn_lst (da_cons (de_call (c_is_cut V) tk_def hr (by decide) rfl (g_is_cut V) (da_cons (de_var (i := 1)) (da_cons (de_var (i := 2)) da_nil))) (da_cons (de_callK0 (ka_is_cut_0_value_lots V) tk_def hr (by decide) rfl (g_is_cut V) (dk_cons (de_tuple1 (f_tuple V) (de_var (i := 2))) (dk_cons (de_var (i := 1)) dk_nil))) da_nil))))))) (DE.db (de_reprD hr (f_repr V) (DE.db (DN.de (dn_lst (da_cons (de_var (i := 5)) (da_cons (de_var (i := 5)) da_nil))))))))))))))
theorem c_lcut_right (V : WD K mg) : CalA P w K mg base 4 (He.ga K "_law_cut_right") d_lcut_right := by
  obtain ⟨fd, F⟩ := V.d.def_ 9 (d := df_9) rfl
  exact cal_A F sc_lcut_right (ok_lcut_right V _) (fun _ _ _ _ _ _ us hl => match us, hl with | [_, _, _], _ => rfl)
/-! ldraw -/
def s_ldraw_1 : En → SR :=
  (sIf (tOfE (eBin gtI (bOf (eBin ixG (bVar 0) (bOf (eC (.int 0))))) (bOf (eC (.int 0))))) (sSeq (sAsg (eBin divmodD (bOf (eBin ixG (bVar 0) (bOf (eC (.int 0))))) (bVar 1)) (gTp 2 (gsCons (gSetIx 0 (eC (.int 0))) (gsCons (gNm 2) gsNil))))
  (sRet (eVar 2))) sNop)
def s_ldraw : En → SR :=
  (sSeq s_ldraw_1
  (sSeq (sAsg (eBin modI (bOf (eUn intD (bOf (eBin addI (bOf (eBin mulI (bOf (eBin ixG (bVar 0) (bOf (eC (.int 1))))) (bOf (eC (.int 40009))))) (bOf (eC (.int 17011))))))) (bOf (eC (.int 2147483549)))) (gSetIx 0 (eC (.int 1))))
  (sRet (eBin modI (bOf (eUn intD (bOf (eBin fdivI (bOf (eBin modI (bOf (eUn intD (bOf (eBin mulI (bOf (eBin ixG (bVar 0) (bOf (eC (.int 1))))) (bOf (eBin ixG (bVar 0) (bOf (eC (.int 1))))))))) (bOf (eC (.int 2147483587))))) (bOf (eC (.int 11))))))) (bVar 1)))))
def b_ldraw : D → List D → Res (D × D) := runB 3 2 s_ldraw
abbrev nm_ldraw : List Str := ["_law_pot_here", "_law_ways", "_law_digit"]
theorem sc_ldraw : FnScope nm_ldraw ["_law_pot_here", "_law_ways"] (defScope (top 28)) := ⟨rfl, rfl, rfl, by decide +kernel, rfl, by decide +kernel, by decide +kernel⟩
theorem ok_ldraw (V : WD K mg) (fA : Addr) : BodyOk P w K mg base 0 nm_ldraw "_law_draw" (defScope (top 28)) fA (defBody (top 28)) s_ldraw := by
  intro cdv A outer s H E hr
  have nd := (sc_ldraw).nd
  exact (dss_cons (ds_if (DC.dt (dc_gt (DE.db (de_at (db_var (i := 0)) (DE.db de_int))) (DE.db de_int))) (dss_cons (ds_asg (de_divmod rfl (f_divmod V) PyProof.Rows.boot_divmod (DE.db (de_at (db_var (i := 0)) (DE.db de_int))) (db_var (i := 1))) (dg_tup (n := 2) rfl (dgs_cons (dg_setix (i := 0) (vs := [2]) de_int) (dgs_cons (dg_name (i := 2) (vs := [2]) (by decide) nd) dgs_nil))))
  (dss_one (ds_ret (de_var (i := 2))))) dss_nil)
  (dss_cons (ds_asg (de_mod (DE.db (de_int1  (f_int V) (DE.db (de_add (DE.db (de_mul (DE.db (de_at (db_var (i := 0)) (DE.db de_int))) (DE.db de_int))) (DE.db de_int))))) (DE.db de_int)) (dg_setix (i := 0) (vs := []) de_int))
  (dss_one (ds_ret (de_mod (DE.db (de_int1  (f_int V) (DE.db (de_fdiv (DE.db (de_mod (DE.db (de_int1  (f_int V) (DE.db (de_mul (DE.db (de_at (db_var (i := 0)) (DE.db de_int))) (DE.db (de_at (db_var (i := 0)) (DE.db de_int))))))) (DE.db de_int))) (DE.db de_int))))) (db_var (i := 1)))))))
theorem c_ldraw (V : WD K mg) : CalB P w K mg base 1 (He.ga K "_law_draw") b_ldraw := by
  obtain ⟨fd, F⟩ := V.d.def_ 10 (d := df_10) rfl
  exact cal_B F sc_ldraw (ok_ldraw V _) (fun _ _ _ _ _ _ us hl => match us, hl with | [_, _], _ => rfl)
/-! lis_taking -/
def e_lis_taking_1 : En → Res (D × En) :=
  (eLc (iSeq (eVar 0)) (gNm 2) tYesD (eBin ixG (bVar 2) (bOf (eC (.int 0)))) [2])
def s_lis_taking_1 : En → SR :=
  (sIf (tOfE (eBin neD (bOf (eUn (orU (orU sortedD sortedT) sortedK) (bVar 1))) (bOf (eUn sortedD (bOf e_lis_taking_1))))) (sRet (eC (.bl false))) sNop)
def e_lis_taking_2 : En → Res (D × En) :=
  (eLc (iSeq (eVar 7)) (gNm 8) tYesD (eBin inLst (bVar 8) (bVar 5)) [8])
def s_lis_taking_3_2 : En → SR :=
  (sIf (tOrD (tOfE (eBin neD (bVar 7) (bOf (eUn sortedD (bVar 7))))) (tOrD (tOfE (eBin gtI (bOf (eUn (orU lenD lenK) (bVar 7))) (bVar 6))) (tNotD (tOfE (eUn allD (bOf e_lis_taking_2)))))) (sRet (eC (.bl false))) sNop)
def s_lis_taking_3_b : En → SR :=
  (sSeq (sSet 7 (eUn listD (bOf (eBin dgetD (bVar 1) (bVar 4)))))
  (sSeq s_lis_taking_3_2
  (sExtend 3 (eVar 7))))
def s_lis_taking_3 : En → SR :=
  (sFor (iSeq (eVar 0)) (gTp 3 (gsCons (gNm 4) (gsCons (gNm 5) (gsCons (gNm 6) gsNil)))) s_lis_taking_3_b)
def e_lis_taking_3 : En → Res (D × En) :=
  (eLc (iSeq (eVar 3)) (gNm 8) tYesD (eBin eqD (bOf (eCnt (eVar 3) (eVar 8))) (bOf (eC (.int 1)))) [8])
def s_lis_taking : En → SR :=
  (sSeq s_lis_taking_1
  (sSeq (sOwn 3 (eLst aNil))
  (sSeq s_lis_taking_3
  (sRet (eUn allD (bOf e_lis_taking_3))))))
def d_lis_taking : List D → Res D := runF 9 2 s_lis_taking
abbrev nm_lis_taking : List Str := ["_law_rows_here", "_law_told", "_law_entry", "_law_every", "_law_firm", "_law_reels", "_law_wish_of", "_law_some", "_law_film"]
theorem sc_lis_taking : FnScope nm_lis_taking ["_law_rows_here", "_law_told"] (defScope (top 35)) := ⟨rfl, rfl, rfl, by decide +kernel, rfl, by decide +kernel, by decide +kernel⟩
theorem ok_lis_taking (V : WD K mg) (fA : Addr) : BodyOk P w K mg base 0 nm_lis_taking "_law_is_taking" (defScope (top 35)) fA (defBody (top 35)) s_lis_taking := by
  intro cdv A outer s H E hr
  have nd := (sc_lis_taking).nd
  exact (dss_cons (ds_if (DC.dt (dc_ne hr (DE.db (DN.de (dn_sortedB rfl hr (f_sorted V) (db_var (i := 1))))) (DE.db (DN.de (dn_sorted hr (f_sorted V) (DE.db (DN.de (dn_lc (own := [("_law_entry", 2)]) rfl nd (di_seq (de_var (i := 0))) (by refine ⟨rfl, ?_, ?_, ?_, ?_⟩ <;> first | exact of_decide_eq_true (by kernel_rfl) | decide +kernel) (fun _ _ _ _ _ => (dg_name (i := 2) (vs := [2]) (by decide) nd)) (fun _ _ _ _ _ => dts_nil) (fun _ _ _ _ _ => (de_at (db_var (i := 2)) (DE.db de_int))))))))))) (dss_one (ds_ret de_bl)) dss_nil)
  (dss_cons (ds_own (i := 3) nd (dn_lst da_nil))
  (dss_cons (ds_for own_def rfl (di_seq (de_var (i := 0))) (dg_tup (n := 3) rfl (dgs_cons (dg_name (i := 4) (vs := [4, 5, 6]) (by decide) nd) (dgs_cons (dg_name (i := 5) (vs := [4, 5, 6]) (by decide) nd) (dgs_cons (dg_name (i := 6) (vs := [4, 5, 6]) (by decide) nd) dgs_nil)))) (dss_cons (ds_set (i := 7) nd (DN.de (dn_list1  (f_list V) (DE.db (de_atK hr (db_var (i := 1)) (db_var (i := 4)))))))
  (dss_cons (ds_if (DW.dt (dw_or (DC.dt (dc_ne hr (db_var (i := 7)) (DE.db (DN.de (dn_sorted hr (f_sorted V) (db_var (i := 7))))))) (dw_or (DC.dt (dc_gt (DE.db (de_len  (f_len V) (db_var (i := 7)))) (db_var (i := 6)))) (dw_or1 (dt_not (dt_val (de_all rfl (f_all V) (DE.db (DN.de (dn_lc (own := [("_law_film", 8)]) rfl nd (di_seq (de_var (i := 7))) (by refine ⟨rfl, ?_, ?_, ?_, ?_⟩ <;> first | exact of_decide_eq_true (by kernel_rfl) | decide +kernel) (fun _ _ _ _ _ => (dg_name (i := 8) (vs := [8]) (by decide) nd)) (fun _ _ _ _ _ => dts_nil) (fun _ _ _ _ _ => (DC.de (dc_inL hr (db_var (i := 8)) (db_var (i := 5))))))))))))))) (dss_one (ds_ret de_bl)) dss_nil)
  (dss_one (ds_extend (i := 3) (de_var (i := 7)))))))
  (dss_one (ds_ret (de_all rfl (f_all V) (DE.db (DN.de (dn_lc (own := [("_law_film", 8)]) rfl nd (di_seq (de_var (i := 3))) (by refine ⟨rfl, ?_, ?_, ?_, ?_⟩ <;> first | exact of_decide_eq_true (by kernel_rfl) | decide +kernel) (fun _ _ _ _ _ => (dg_name (i := 8) (vs := [8]) (by decide) nd)) (fun _ _ _ _ _ => dts_nil) (fun _ _ _ _ _ => (DC.de (dc_eq hr (DE.db (de_count hr (de_var (i := 3)) (de_var (i := 8)))) (DE.db de_int)))))))))))))
theorem c_lis_taking (V : WD K mg) : CalA P w K mg base 1 (He.ga K "_law_is_taking") d_lis_taking := by
  obtain ⟨fd, F⟩ := V.d.def_ 11 (d := df_11) rfl
  exact cal_A F sc_lis_taking (ok_lis_taking V _) (fun _ _ _ _ _ _ us hl => match us, hl with | [_, _], _ => rfl)
/-! Lots_iter -/
theorem sc_Lots_iter : FnScope ["self"] ["self"] (defScope (mth 20 12)) := ⟨rfl, rfl, rfl, by decide +kernel, rfl, by decide +kernel, by decide +kernel⟩
theorem c_Lots_iter (V : WD K mg) : CalI P w K mg base 1 (He.ma K (He.ga K "Lots") "__iter__") "Lots" "own_lots" := by
  obtain ⟨fd, F⟩ := V.d.def_ 12 (d := df_12) rfl
  exact cal_I F sc_Lots_iter (na_Lots_own_lots V) (f_iter V) (fun _ _ _ _ _ _ us hl => match us, hl with | [_], _ => rfl)
/-! Lots_all_houses -/
def s_Lots_all_houses : En → SR :=
  (sRet (eUn (orU listD listK) (bOf (eUn (fldD ["Lots"] "own_lots") (bVar 0)))))
def d_Lots_all_houses : List D → Res D := runF 1 1 s_Lots_all_houses
abbrev nm_Lots_all_houses : List Str := ["self"]
theorem sc_Lots_all_houses : FnScope nm_Lots_all_houses ["self"] (defScope (mth 20 6)) := ⟨rfl, rfl, rfl, by decide +kernel, rfl, by decide +kernel, by decide +kernel⟩
theorem ok_Lots_all_houses (V : WD K mg) (fA : Addr) : BodyOk P w K mg base 0 nm_Lots_all_houses "Lots.all_houses" (defScope (mth 20 6)) fA (defBody (mth 20 6)) s_Lots_all_houses := by
  intro cdv A outer s H E hr
  have nd := (sc_Lots_all_houses).nd
  exact (dss_one (ds_ret (DN.de (dn_listA rfl (f_list V) (DE.db (de_fld (na_Lots_own_lots V) (db_var (i := 0))))))))
theorem c_Lots_all_houses (V : WD K mg) : CalA P w K mg base 1 (He.ma K (He.ga K "Lots") "all_houses") d_Lots_all_houses := by
  obtain ⟨fd, F⟩ := V.d.def_ 13 (d := df_13) rfl
  exact cal_A F sc_Lots_all_houses (ok_Lots_all_houses V _) (fun _ _ _ _ _ _ us hl => match us, hl with | [_], _ => rfl)
/-! is_films_of -/
def s_is_films_of_1 : En → SR :=
  (sIf (tOrD (tNotD (tOfE (eCall d_are_names (aCons (eVar 2) aNil)))) (tOfE (eBin neD (bOf (eUn (orU listD listK) (bVar 2))) (bOf (eUn (orU (orU sortedD sortedT) sortedK) (bVar 2)))))) (sRet (eC (.bl false))) sNop)
def e_is_films_of_1 : En → Res (D × En) :=
  (eLc (iSeq (eVar 2)) (gNm 3) tYesD (eBin inLst (bVar 3) (bOf (eMeth "Lots" "films_of" d_Lots_films_of (eVar 0) (aCons (eVar 1) aNil)))) [3])
def s_is_films_of : En → SR :=
  (sSeq s_is_films_of_1
  (sRet (eUn allD (bOf e_is_films_of_1))))
def d_is_films_of : List D → Res D := runF 4 3 s_is_films_of
abbrev nm_is_films_of : List Str := ["lots", "house", "value", "film"]
theorem sc_is_films_of : FnScope nm_is_films_of ["lots", "house", "value"] (defScope (top 21)) := ⟨rfl, rfl, rfl, by decide +kernel, rfl, by decide +kernel, by decide +kernel⟩
theorem ok_is_films_of (V : WD K mg) (fA : Addr) : BodyOk P w K mg base 2 nm_is_films_of "is_films_of" (defScope (top 21)) fA (defBody (top 21)) s_is_films_of := by
  intro cdv A outer s H E hr
  have nd := (sc_is_films_of).nd
  exact (dss_cons (ds_if (DW.dt (dw_or (dt_not (dt_val (de_call (c_are_names V) tk_def hr (by decide) rfl (g_are_names V) (da_cons (de_var (i := 2)) da_nil)))) (dw_or1 (DC.dt (dc_ne hr (DE.db (DN.de (dn_listA rfl (f_list V) (db_var (i := 2))))) (DE.db (DN.de (dn_sortedB rfl hr (f_sorted V) (db_var (i := 2)))))))))) (dss_one (ds_ret de_bl)) dss_nil)
  (dss_one (ds_ret (de_all rfl (f_all V) (DE.db (DN.de (dn_lc (own := [("film", 3)]) rfl nd (di_seq (de_var (i := 2))) (by refine ⟨rfl, ?_, ?_, ?_, ?_⟩ <;> first | exact of_decide_eq_true (by kernel_rfl) | decide +kernel) (fun _ _ _ _ _ => (dg_name (i := 3) (vs := [3]) (by decide) nd)) (fun _ _ _ _ _ => dts_nil) (fun _ _ _ _ _ => (DC.de (dc_inL hr (db_var (i := 3)) (DE.db (de_meth (c := "Lots") (c_Lots_films_of V) takes0 hr (by decide) (g_Lots V) (cl_Lots V) (m_Lots_films_of V) (de_var (i := 0)) (da_cons (de_var (i := 1)) da_nil)))))))))))))
theorem c_is_films_of (V : WD K mg) : CalA P w K mg base 3 (He.ga K "is_films_of") d_is_films_of := by
  obtain ⟨fd, F⟩ := V.d.def_ 14 (d := df_14) rfl
  exact cal_A F sc_is_films_of (ok_is_films_of V _) (fun _ _ _ _ _ _ us hl => match us, hl with | [_, _, _], _ => rfl)
/-! is_taking_by -/
def e_is_taking_by_1 : En → Res (D × En) :=
  (eLc (iSeq (eVar 1)) (gNm 3) tYesD (eBin dinD (bVar 3) (bVar 2)) [3])
def s_is_taking_by_1 : En → SR :=
  (sIf (tOrD (tNotD (tOfE (eUn (isiB ["dict"] []) (bVar 2)))) (tOrD (tOfE (eBin neD (bOf (eUn (orU lenD lenK) (bVar 2))) (bOf (eUn (orU lenD lenK) (bVar 1))))) (tNotD (tOfE (eUn allD (bOf e_is_taking_by_1)))))) (sRet (eC (.bl false))) sNop)
def s_is_taking_by_3_1 : En → SR :=
  (sIf (tOrD (tNotD (tOfE (eCall d_is_films_of (aCons (eVar 0) (aCons (eVar 3) (aCons (eBin dgetD (bVar 2) (bVar 3)) aNil)))))) (tOfE (eBin gtI (bOf (eUn (orU lenD lenK) (bOf (eBin dgetD (bVar 2) (bVar 3))))) (bOf (eMeth "Lots" "wanted_by" d_Lots_wanted_by (eVar 0) (aCons (eVar 3) aNil)))))) (sRet (eC (.bl false))) sNop)
def s_is_taking_by_3_b : En → SR :=
  (sSeq s_is_taking_by_3_1
  (sAlt (sExtend 4 (eBin dgetD (bVar 2) (bVar 3))) (sExtendT 4 (eBin dgetD (bVar 2) (bVar 3)))))
def s_is_taking_by_3 : En → SR :=
  (sFor (iSeq (eVar 1)) (gNm 3) s_is_taking_by_3_b)
def s_is_taking_by : En → SR :=
  (sSeq s_is_taking_by_1
  (sSeq (sOwn 4 (eLst aNil))
  (sSeq s_is_taking_by_3
  (sRet (eBin eqD (bOf (eUn lenSetD (bOf (eVar 4)))) (bOf (eUn (orU lenD lenK) (bVar 4))))))))
def d_is_taking_by : List D → Res D := runF 5 3 s_is_taking_by
abbrev nm_is_taking_by : List Str := ["lots", "houses", "value", "house", "taken"]
theorem sc_is_taking_by : FnScope nm_is_taking_by ["lots", "houses", "value"] (defScope (top 22)) := ⟨rfl, rfl, rfl, by decide +kernel, rfl, by decide +kernel, by decide +kernel⟩
theorem ok_is_taking_by (V : WD K mg) (fA : Addr) : BodyOk P w K mg base 3 nm_is_taking_by "is_taking_by" (defScope (top 22)) fA (defBody (top 22)) s_is_taking_by := by
  intro cdv A outer s H E hr
  have nd := (sc_is_taking_by).nd
  exact (dss_cons (ds_if (DW.dt (dw_or (dt_not (dt_val (de_isi1 (cs := []) rfl (f_isinstance V) PyProof.Rows.boot_isinstance rfl (f_dict V) PyProof.Rows.boot_dict (by decide) ⟨fun _ h => nomatch h⟩ (db_var (i := 2))))) (dw_or (DC.dt (dc_ne hr (DE.db (de_len  (f_len V) (db_var (i := 2)))) (DE.db (de_len  (f_len V) (db_var (i := 1)))))) (dw_or1 (dt_not (dt_val (de_all rfl (f_all V) (DE.db (DN.de (dn_lc (own := [("house", 3)]) rfl nd (di_seq (de_var (i := 1))) (by refine ⟨rfl, ?_, ?_, ?_, ?_⟩ <;> first | exact of_decide_eq_true (by kernel_rfl) | decide +kernel) (fun _ _ _ _ _ => (dg_name (i := 3) (vs := [3]) (by decide) nd)) (fun _ _ _ _ _ => dts_nil) (fun _ _ _ _ _ => (DC.de (dc_inK hr (db_var (i := 3)) (db_var (i := 2))))))))))))))) (dss_one (ds_ret de_bl)) dss_nil)
  (dss_cons (ds_own (i := 4) nd (dn_lst da_nil))
  (dss_cons (ds_for own_def rfl (di_seq (de_var (i := 1))) (dg_name (i := 3) (vs := [3]) (by decide) nd) (dss_cons (ds_if (DW.dt (dw_or (dt_not (dt_val (de_call (c_is_films_of V) tk_def hr (by decide) rfl (g_is_films_of V) (da_cons (de_var (i := 0)) (da_cons (de_var (i := 3)) (da_cons (de_atK hr (db_var (i := 2)) (db_var (i := 3))) da_nil)))))) (dw_or1 (DC.dt (dc_gt (DE.db (de_len  (f_len V) (DE.db (de_atK hr (db_var (i := 2)) (db_var (i := 3)))))) (DE.db (de_meth (c := "Lots") (c_Lots_wanted_by V) tk_def hr (by decide) (g_Lots V) (cl_Lots V) (m_Lots_wanted_by V) (de_var (i := 0)) (da_cons (de_var (i := 3)) da_nil)))))))) (dss_one (ds_ret de_bl)) dss_nil)
  (dss_one (DS.alt (ds_extend (i := 4) (de_atK hr (db_var (i := 2)) (db_var (i := 3)))) (ds_extendT (i := 4) (de_atK hr (db_var (i := 2)) (db_var (i := 3))))))))
  (dss_one (ds_ret (DC.de (dc_eq hr (DE.db (de_lenSet rfl (f_len V) (f_set V) (de_var (i := 4)))) (DE.db (de_len  (f_len V) (db_var (i := 4)))))))))))
theorem c_is_taking_by (V : WD K mg) : CalA P w K mg base 4 (He.ga K "is_taking_by") d_is_taking_by := by
  obtain ⟨fd, F⟩ := V.d.def_ 15 (d := df_15) rfl
  exact cal_A F sc_is_taking_by (ok_is_taking_by V _) (fun _ _ _ _ _ _ us hl => match us, hl with | [_, _, _], _ => rfl)
/-! is_taking -/
def s_is_taking : En → SR :=
  (sRet (eCall d_is_taking_by (aCons (eVar 0) (aCons (eMeth "Lots" "all_houses" d_Lots_all_houses (eVar 0) aNil) (aCons (eVar 1) aNil)))))
def d_is_taking : List D → Res D := runF 2 2 s_is_taking
abbrev nm_is_taking : List Str := ["lots", "value"]
theorem sc_is_taking : FnScope nm_is_taking ["lots", "value"] (defScope (top 23)) := ⟨rfl, rfl, rfl, by decide +kernel, rfl, by decide +kernel, by decide +kernel⟩
theorem ok_is_taking (V : WD K mg) (fA : Addr) : BodyOk P w K mg base 4 nm_is_taking "is_taking" (defScope (top 23)) fA (defBody (top 23)) s_is_taking := by
  intro cdv A outer s H E hr
  have nd := (sc_is_taking).nd
  exact (dss_one (ds_ret (de_call (c_is_taking_by V) tk_def hr (by decide) rfl (g_is_taking_by V) (da_cons (de_var (i := 0)) (da_cons (de_meth0 (c := "Lots") (c_Lots_all_houses V) tk_def hr (by decide) (g_Lots V) (cl_Lots V) (m_Lots_all_houses V) (de_var (i := 0))) (da_cons (de_var (i := 1)) da_nil))))))
theorem c_is_taking (V : WD K mg) : CalA P w K mg base 5 (He.ga K "is_taking") d_is_taking := by
  obtain ⟨fd, F⟩ := V.d.def_ 16 (d := df_16) rfl
  exact cal_A F sc_is_taking (ok_is_taking V _) (fun _ _ _ _ _ _ us hl => match us, hl with | [_, _], _ => rfl)
def dk_is_taking_0_value_lots : List D → List D → Res D := fun as zs => d_is_taking (pickL [(2, 1), (2, 0)] as [] zs)
theorem ka_is_taking_0_value_lots (V : WD K mg) : KalA P w K mg base 5 (He.ga K "is_taking") 0 ["value", "lots"] dk_is_taking_0_value_lots := by
  obtain ⟨fd, F⟩ := V.d.def_ 16 (d := df_16) rfl
  exact kal_A [(2, 1), (2, 0)] F sc_is_taking (ok_is_taking V _) 0 ["value", "lots"] (fun _ _ _ _ _ _ us ws h1 h2 => match us, ws, h1, h2 with | [], [_, _], _, _ => rfl)
/-! is_choice -/
def e_is_choice_1 : En → Res (D × En) :=
  (eLc (iOwn "Lots" "own_lots" (eVar 0)) (gNm 2) tYesD (eBin eqD (bOf (eUn (orU lenD lenK) (bOf (eBin dgetD (bVar 1) (bVar 2))))) (bOf (eMeth "Lots" "wanted_by" d_Lots_wanted_by (eVar 0) (aCons (eVar 2) aNil)))) [2])
def s_is_choice : En → SR :=
  (sRet (eAnd (eCall d_is_taking (aCons (eVar 0) (aCons (eVar 1) aNil))) (eUn allD (bOf e_is_choice_1))))
def d_is_choice : List D → Res D := runF 3 2 s_is_choice
abbrev nm_is_choice : List Str := ["lots", "value", "house"]
theorem sc_is_choice : FnScope nm_is_choice ["lots", "value"] (defScope (top 24)) := ⟨rfl, rfl, rfl, by decide +kernel, rfl, by decide +kernel, by decide +kernel⟩
theorem ok_is_choice (V : WD K mg) (fA : Addr) : BodyOk P w K mg base 5 nm_is_choice "is_choice" (defScope (top 24)) fA (defBody (top 24)) s_is_choice := by
  intro cdv A outer s H E hr
  have nd := (sc_is_choice).nd
  exact (dss_one (ds_ret (de_and (de_call (c_is_taking V) tk_def hr (by decide) rfl (g_is_taking V) (da_cons (de_var (i := 0)) (da_cons (de_var (i := 1)) da_nil))) (de_one (de_all rfl (f_all V) (DE.db (DN.de (dn_lc (own := [("house", 2)]) rfl nd (di_own (c := "Lots") (c_Lots_iter V) tk_def hr (by decide) (g_Lots V) (m_Lots_iter V) (de_var (i := 0))) (by refine ⟨rfl, ?_, ?_, ?_, ?_⟩ <;> first | exact of_decide_eq_true (by kernel_rfl) | decide +kernel) (fun _ _ _ _ _ => (dg_name (i := 2) (vs := [2]) (by decide) nd)) (fun _ _ _ _ _ => dts_nil) (fun _ _ _ _ _ => (DC.de (dc_eq hr (DE.db (de_len  (f_len V) (DE.db (de_atK hr (db_var (i := 1)) (db_var (i := 2)))))) (DE.db (de_meth (c := "Lots") (c_Lots_wanted_by V) takes0 hr (by decide) (g_Lots V) (cl_Lots V) (m_Lots_wanted_by V) (de_var (i := 0)) (da_cons (de_var (i := 2)) da_nil))))))))))))))
theorem c_is_choice (V : WD K mg) : CalA P w K mg base 6 (He.ga K "is_choice") d_is_choice := by
  obtain ⟨fd, F⟩ := V.d.def_ 17 (d := df_17) rfl
  exact cal_A F sc_is_choice (ok_is_choice V _) (fun _ _ _ _ _ _ us hl => match us, hl with | [_, _], _ => rfl)
def dk_is_choice_0_value_lots : List D → List D → Res D := fun as zs => d_is_choice (pickL [(2, 1), (2, 0)] as [] zs)
theorem ka_is_choice_0_value_lots (V : WD K mg) : KalA P w K mg base 6 (He.ga K "is_choice") 0 ["value", "lots"] dk_is_choice_0_value_lots := by
  obtain ⟨fd, F⟩ := V.d.def_ 17 (d := df_17) rfl
  exact kal_A [(2, 1), (2, 0)] F sc_is_choice (ok_is_choice V _) 0 ["value", "lots"] (fun _ _ _ _ _ _ us ws h1 h2 => match us, ws, h1, h2 with | [], [_, _], _, _ => rfl)
/-! ljudged -/
def e_ljudged_1 : En → Res (D × En) :=
  (eLc (iSeq (eVar 0)) (gTp 3 (gsCons (gNm 5) (gsCons (gNm 6) (gsCons (gNm 7) gsNil)))) tYesD (eBin eqD (bOf (eUn (orU lenD lenK) (bOf (eBin dgetD (bVar 2) (bVar 5))))) (bVar 7)) [5, 6, 7])
def s_ljudged : En → SR :=
  (sSeq (sSet 3 (eCall d_lis_taking (aCons (eVar 0) (aCons (eVar 2) aNil))))
  (sSeq (sSet 4 (eAnd (eVar 3) (eUn allD (bOf e_ljudged_1))))
  (sSeq (sSet 8 (eUn (orU (orU reprB reprD) reprK) (bVar 2)))
  (sSeq (sSet 9 (eLst (aCons (eCallK 0 2 dk_is_taking_0_value_lots aNil (aCons (eVar 2) (aCons (eVar 1) aNil))) (aCons (eCallK 0 2 dk_is_choice_0_value_lots aNil (aCons (eVar 2) (aCons (eVar 1) aNil))) aNil))))
  (sRet (eAnd (eBin eqD (bOf (eUn (orU reprB reprD) (bVar 9))) (bOf (eUn (orU reprB reprD) (bOf (eLst (aCons (eVar 3) (aCons (eVar 4) aNil))))))) (eBin eqD (bOf (eUn (orU (orU reprB reprD) reprK) (bVar 2))) (bVar 8))))))))
def d_ljudged : List D → Res D := runF 10 3 s_ljudged
abbrev nm_ljudged : List Str := ["_law_rows_here", "_law_offer", "_law_told", "_law_due", "_law_is_full_here", "_law_firm", "_law_reels", "_law_wish_of", "_law_shown", "_law_answers"]
theorem sc_ljudged : FnScope nm_ljudged ["_law_rows_here", "_law_offer", "_law_told"] (defScope (top 37)) := ⟨rfl, rfl, rfl, by decide +kernel, rfl, by decide +kernel, by decide +kernel⟩
theorem ok_ljudged (V : WD K mg) (fA : Addr) : BodyOk P w K mg base 6 nm_ljudged "_law_judged" (defScope (top 37)) fA (defBody (top 37)) s_ljudged := by
  intro cdv A outer s H E hr
  have nd := (sc_ljudged).nd
  exact (dss_cons (ds_set (i := 3) nd (de_call (c_lis_taking V) tk_def hr (by decide) rfl (g_law_is_taking V) (da_cons (de_var (i := 0)) (da_cons (de_var (i := 2)) da_nil))))
  (dss_cons (ds_set (i := 4) nd (de_and (de_var (i := 3)) (de_one (de_all rfl (f_all V) (DE.db (DN.de (dn_lc (own := [("_law_firm", 5), ("_law_reels", 6), ("_law_wish_of", 7)]) rfl nd (di_seq (de_var (i := 0))) (by refine ⟨rfl, ?_, ?_, ?_, ?_⟩ <;> first | exact of_decide_eq_true (by kernel_rfl) | decide +kernel) (fun _ _ _ _ _ => (dg_tup (n := 3) rfl (dgs_cons (dg_name (i := 5) (vs := [5, 6, 7]) (by decide) nd) (dgs_cons (dg_name (i := 6) (vs := [5, 6, 7]) (by decide) nd) (dgs_cons (dg_name (i := 7) (vs := [5, 6, 7]) (by decide) nd) dgs_nil))))) (fun _ _ _ _ _ => dts_nil) (fun _ _ _ _ _ => (DC.de (dc_eq hr (DE.db (de_len  (f_len V) (DE.db (de_atK hr (db_var (i := 2)) (db_var (i := 5)))))) (db_var (i := 7))))))))))))
  (dss_cons (ds_set (i := 8) nd (de_reprA hr (f_repr V) (db_var (i := 2))))
  (dss_cons (ds_set (i := 9) nd (DN.de (dn_lst (da_cons (de_callK0 (ka_is_taking_0_value_lots V) tk_def hr (by decide) rfl (g_is_taking V) (dk_cons (de_var (i := 2)) (dk_cons (de_var (i := 1)) dk_nil))) (da_cons (de_callK0 (ka_is_choice_0_value_lots V) tk_def hr (by decide) rfl (g_is_choice V) (dk_cons (de_var (i := 2)) (dk_cons (de_var (i := 1)) dk_nil))) da_nil)))))
  (dss_one (ds_ret (de_and (DC.de (dc_eq hr (DE.db (de_reprD hr (f_repr V) (db_var (i := 9)))) (DE.db (de_reprD hr (f_repr V) (DE.db (DN.de (dn_lst (da_cons (de_var (i := 3)) (da_cons (de_var (i := 4)) da_nil))))))))) (de_one (DC.de (dc_eq hr (DE.db (de_reprA hr (f_repr V) (db_var (i := 2)))) (db_var (i := 8))))))))))))
theorem c_ljudged (V : WD K mg) : CalA P w K mg base 7 (He.ga K "_law_judged") d_ljudged := by
  obtain ⟨fd, F⟩ := V.d.def_ 18 (d := df_18) rfl
  exact cal_A F sc_ljudged (ok_ljudged V _) (fun _ _ _ _ _ _ us hl => match us, hl with | [_, _, _], _ => rfl)
/-! is_integer -/
def s_is_integer : En → SR :=
  (sRet (eAnd (eUn (isiB ["int"] []) (bVar 0)) (eNot (eUn (isiB ["bool"] []) (bVar 0)))))
def d_is_integer : List D → Res D := runF 1 1 s_is_integer
abbrev nm_is_integer : List Str := ["value"]
theorem sc_is_integer : FnScope nm_is_integer ["value"] (defScope (top 5)) := ⟨rfl, rfl, rfl, by decide +kernel, rfl, by decide +kernel, by decide +kernel⟩
theorem ok_is_integer (V : WD K mg) (fA : Addr) : BodyOk P w K mg base 0 nm_is_integer "is_integer" (defScope (top 5)) fA (defBody (top 5)) s_is_integer := by
  intro cdv A outer s H E hr
  have nd := (sc_is_integer).nd
  exact (dss_one (ds_ret (de_and (de_isi1 (cs := []) rfl (f_isinstance V) PyProof.Rows.boot_isinstance rfl (f_int V) PyProof.Rows.boot_int (by decide) ⟨fun _ h => nomatch h⟩ (db_var (i := 0))) (de_one (de_not (de_isi1 (cs := []) rfl (f_isinstance V) PyProof.Rows.boot_isinstance rfl (f_bool V) PyProof.Rows.boot_bool (by decide) ⟨fun _ h => nomatch h⟩ (db_var (i := 0))))))))
theorem c_is_integer (V : WD K mg) : CalA P w K mg base 1 (He.ga K "is_integer") d_is_integer := by
  obtain ⟨fd, F⟩ := V.d.def_ 19 (d := df_19) rfl
  exact cal_A F sc_is_integer (ok_is_integer V _) (fun _ _ _ _ _ _ us hl => match us, hl with | [_], _ => rfl)
/-! is_count -/
def s_is_count : En → SR :=
  (sRet (eAnd (eCall d_is_integer (aCons (eVar 0) aNil)) (eBin geI (bVar 0) (bOf (eC (.int 0))))))
def d_is_count : List D → Res D := runF 1 1 s_is_count
abbrev nm_is_count : List Str := ["value"]
theorem sc_is_count : FnScope nm_is_count ["value"] (defScope (top 6)) := ⟨rfl, rfl, rfl, by decide +kernel, rfl, by decide +kernel, by decide +kernel⟩
theorem ok_is_count (V : WD K mg) (fA : Addr) : BodyOk P w K mg base 1 nm_is_count "is_count" (defScope (top 6)) fA (defBody (top 6)) s_is_count := by
  intro cdv A outer s H E hr
  have nd := (sc_is_count).nd
  exact (dss_one (ds_ret (de_and (de_call (c_is_integer V) tk_def hr (by decide) rfl (g_is_integer V) (da_cons (de_var (i := 0)) da_nil)) (de_one (DC.de (dc_ge (db_var (i := 0)) (DE.db de_int)))))))
theorem c_is_count (V : WD K mg) : CalA P w K mg base 2 (He.ga K "is_count") d_is_count := by
  obtain ⟨fd, F⟩ := V.d.def_ 20 (d := df_20) rfl
  exact cal_A F sc_is_count (ok_is_count V _) (fun _ _ _ _ _ _ us hl => match us, hl with | [_], _ => rfl)
/-! is_lot -/
def s_is_lot_1 : En → SR :=
  (sIf (tOrD (tNotD (tOfE (eUn (isiB ["tuple"] []) (bVar 0)))) (tOrD (tOfE (eBin neD (bOf (eUn (orU lenD lenK) (bVar 0))) (bOf (eC (.int 3))))) (tOrD (tNotD (tOfE (eCall d_is_name (aCons (eBin ixG (bVar 0) (bOf (eC (.int 0)))) aNil)))) (tNotD (tOfE (eCall d_is_count (aCons (eBin ixG (bVar 0) (bOf (eC (.int 2)))) aNil))))))) (sRet (eC (.bl false))) sNop)
def s_is_lot : En → SR :=
  (sSeq s_is_lot_1
  (sRet (eAnd (eCall d_are_names (aCons (eBin ixG (bVar 0) (bOf (eC (.int 1)))) aNil)) (eBin gtI (bOf (eUn (orU lenD lenK) (bOf (eBin ixG (bVar 0) (bOf (eC (.int 1))))))) (bOf (eC (.int 0)))))))
def d_is_lot : List D → Res D := runF 1 1 s_is_lot
abbrev nm_is_lot : List Str := ["value"]
theorem sc_is_lot : FnScope nm_is_lot ["value"] (defScope (top 18)) := ⟨rfl, rfl, rfl, by decide +kernel, rfl, by decide +kernel, by decide +kernel⟩
theorem ok_is_lot (V : WD K mg) (fA : Addr) : BodyOk P w K mg base 2 nm_is_lot "is_lot" (defScope (top 18)) fA (defBody (top 18)) s_is_lot := by
  intro cdv A outer s H E hr
  have nd := (sc_is_lot).nd
  exact (dss_cons (ds_if (DW.dt (dw_or (dt_not (dt_val (de_isi1 (cs := []) rfl (f_isinstance V) PyProof.Rows.boot_isinstance rfl (f_tuple V) PyProof.Rows.boot_tuple (by decide) ⟨fun _ h => nomatch h⟩ (db_var (i := 0))))) (dw_or (DC.dt (dc_ne hr (DE.db (de_len  (f_len V) (db_var (i := 0)))) (DE.db de_int))) (dw_or (dt_not (dt_val (de_call (c_is_name V) tk_def hr (by decide) rfl (g_is_name V) (da_cons (de_at (db_var (i := 0)) (DE.db de_int)) da_nil)))) (dw_or1 (dt_not (dt_val (de_call (c_is_count V) tk_def hr (by decide) rfl (g_is_count V) (da_cons (de_at (db_var (i := 0)) (DE.db de_int)) da_nil))))))))) (dss_one (ds_ret de_bl)) dss_nil)
  (dss_one (ds_ret (de_and (de_call (c_are_names V) tk_def hr (by decide) rfl (g_are_names V) (da_cons (de_at (db_var (i := 0)) (DE.db de_int)) da_nil)) (de_one (DC.de (dc_gt (DE.db (de_len  (f_len V) (DE.db (de_at (db_var (i := 0)) (DE.db de_int))))) (DE.db de_int))))))))
theorem c_is_lot (V : WD K mg) : CalA P w K mg base 3 (He.ga K "is_lot") d_is_lot := by
  obtain ⟨fd, F⟩ := V.d.def_ 21 (d := df_21) rfl
  exact cal_A F sc_is_lot (ok_is_lot V _) (fun _ _ _ _ _ _ us hl => match us, hl with | [_], _ => rfl)
/-! want_lots -/
def s_want_lots_1 : En → SR :=
  (sIf (tOrD (tNotD (tOfE (eCall d_is_list (aCons (eVar 0) aNil)))) (tOfE (eBin eqD (bOf (eUn (orU lenD lenK) (bVar 0))) (bOf (eC (.int 0)))))) (fun _ => .bad) sNop)
def s_want_lots_3_1 : En → SR :=
  (sIf (tOrD (tNotD (tOfE (eCall d_is_lot (aCons (eVar 3) aNil)))) (tOfE (eBin inLst (bOf (eBin ixG (bVar 3) (bOf (eC (.int 0))))) (bVar 1)))) (fun _ => .bad) sNop)
def s_want_lots_3_b : En → SR :=
  (sSeq s_want_lots_3_1
  (sAppend 1 (eBin ixG (bVar 3) (bOf (eC (.int 0))))))
def s_want_lots_3 : En → SR :=
  (sFor (iEn (aCons (eVar 0) aNil)) (gTp 2 (gsCons (gNm 2) (gsCons (gNm 3) gsNil))) s_want_lots_3_b)
def s_want_lots : En → SR :=
  (sSeq s_want_lots_1
  (sSeq (sOwn 1 (eLst aNil))
  s_want_lots_3))
def d_want_lots : List D → Res D := runF 4 1 s_want_lots
abbrev nm_want_lots : List Str := ["lots", "houses", "position", "lot"]
theorem sc_want_lots : FnScope nm_want_lots ["lots"] (defScope (top 19)) := ⟨rfl, rfl, rfl, by decide +kernel, rfl, by decide +kernel, by decide +kernel⟩
theorem ok_want_lots (V : WD K mg) (fA : Addr) : BodyOk P w K mg base 3 nm_want_lots "want_lots" (defScope (top 19)) fA (defBody (top 19)) s_want_lots := by
  intro cdv A outer s H E hr
  have nd := (sc_want_lots).nd
  exact (dss_cons (ds_if (DW.dt (dw_or (dt_not (dt_val (de_call (c_is_list V) tk_def hr (by decide) rfl (g_is_list V) (da_cons (de_var (i := 0)) da_nil)))) (dw_or1 (DC.dt (dc_eq hr (DE.db (de_len  (f_len V) (db_var (i := 0)))) (DE.db de_int)))))) (dss_one ds_never) dss_nil)
  (dss_cons (ds_own (i := 1) nd (dn_lst da_nil))
  (dss_one (ds_for own_def rfl (di_enum rfl (f_enumerate V) (da_cons (de_var (i := 0)) da_nil)) (dg_tup (n := 2) rfl (dgs_cons (dg_name (i := 2) (vs := [2, 3]) (by decide) nd) (dgs_cons (dg_name (i := 3) (vs := [2, 3]) (by decide) nd) dgs_nil))) (dss_cons (ds_if (DW.dt (dw_or (dt_not (dt_val (de_call (c_is_lot V) tk_def hr (by decide) rfl (g_is_lot V) (da_cons (de_var (i := 3)) da_nil)))) (dw_or1 (DC.dt (dc_inL hr (DE.db (de_at (db_var (i := 3)) (DE.db de_int))) (db_var (i := 1))))))) (dss_one ds_never) dss_nil)
  (dss_one (ds_append (i := 1) (de_at (db_var (i := 3)) (DE.db de_int)))))))))
theorem c_want_lots (V : WD K mg) : CalA P w K mg base 4 (He.ga K "want_lots") d_want_lots := by
  obtain ⟨fd, F⟩ := V.d.def_ 22 (d := df_22) rfl
  exact cal_A F sc_want_lots (ok_want_lots V _) (fun _ _ _ _ _ _ us hl => match us, hl with | [_], _ => rfl)
/-! Lots_init -/
def s_Lots_init_2 : En → SR :=
  (sIf (tOfE (eBin gtI (bOf (eUn (orU lenD lenK) (bVar 1))) (bOf (eUn (conD "Lots" "MOST_HOUSES" (.int 8)) (bVar 0))))) (fun _ => .bad) sNop)
def e_Lots_init_1 : En → Res (D × En) :=
  (eLc (iSeq (eVar 1)) (gTp 3 (gsCons (gNm 2) (gsCons (gNm 3) (gsCons (gNm 4) gsNil)))) tYesD (eBin gtI (bOf (eUn (orU lenD lenK) (bVar 3))) (bOf (eUn (conD "Lots" "MOST_FILMS" (.int 8)) (bVar 0)))) [2, 3, 4])
def s_Lots_init_3 : En → SR :=
  (sIf (tOfE (eUn anyD (bOf e_Lots_init_1))) (fun _ => .bad) sNop)
def e_Lots_init_2 : En → Res (D × En) :=
  (eDc (iSeq (eVar 1)) (gTp 3 (gsCons (gNm 2) (gsCons (gNm 3) (gsCons (gNm 4) gsNil)))) tYesD (eVar 2) (eTup (aCons (eUn tupleD (bOf (eUn sortedD (bVar 3)))) (aCons (eVar 4) aNil))) [2, 3, 4])
def e_Lots_init_3 : En → Res (D × En) :=
  (eDc (iSeq (eUn (orU (orU sortedD sortedT) sortedK) (bVar 5))) (gNm 2) tYesD (eVar 2) (eBin dgetD (bVar 5) (bVar 2)) [2])
def s_Lots_init : En → SR :=
  (sSeq (sExpr (eCall d_want_lots (aCons (eVar 1) aNil)))
  (sSeq s_Lots_init_2
  (sSeq s_Lots_init_3
  (sSeq (sSet 5 e_Lots_init_2)
  (sFldSet ["Lots"] "own_lots" 0 e_Lots_init_3)))))
def b_Lots_init : D → List D → Res (D × D) := runB 6 2 s_Lots_init
abbrev nm_Lots_init : List Str := ["self", "lots", "house", "films", "wanted", "found"]
theorem sc_Lots_init : FnScope nm_Lots_init ["self", "lots"] (defScope (mth 20 2)) := ⟨rfl, rfl, rfl, by decide +kernel, rfl, by decide +kernel, by decide +kernel⟩
theorem ok_Lots_init (V : WD K mg) (fA : Addr) : BodyOk P w K mg base 4 nm_Lots_init "Lots.__init__" (defScope (mth 20 2)) fA (defBody (mth 20 2)) s_Lots_init := by
  intro cdv A outer s H E hr
  have nd := (sc_Lots_init).nd
  obtain ⟨t_cn_Lots_MOST_FILMS, h_cn_Lots_MOST_FILMS⟩ := cn_Lots_MOST_FILMS V
  obtain ⟨t_cn_Lots_MOST_HOUSES, h_cn_Lots_MOST_HOUSES⟩ := cn_Lots_MOST_HOUSES V
  exact (dss_cons (ds_expr (de_call (c_want_lots V) tk_def hr (by decide) rfl (g_want_lots V) (da_cons (de_var (i := 1)) da_nil)))
  (dss_cons (ds_if (DC.dt (dc_gt (DE.db (de_len  (f_len V) (db_var (i := 1)))) (DE.db (de_con (c := "Lots") (d := .int 8) (g_Lots V) (cl_Lots V) h_cn_Lots_MOST_HOUSES (fun _ => rfl) (db_var (i := 0)))))) (dss_one ds_never) dss_nil)
  (dss_cons (ds_if (dt_val (de_any rfl (f_any V) (DE.db (DN.de (dn_lc (own := [("house", 2), ("films", 3), ("wanted", 4)]) rfl nd (di_seq (de_var (i := 1))) (by refine ⟨rfl, ?_, ?_, ?_, ?_⟩ <;> first | exact of_decide_eq_true (by kernel_rfl) | decide +kernel) (fun _ _ _ _ _ => (dg_tup (n := 3) rfl (dgs_cons (dg_name (i := 2) (vs := [2, 3, 4]) (by decide) nd) (dgs_cons (dg_name (i := 3) (vs := [2, 3, 4]) (by decide) nd) (dgs_cons (dg_name (i := 4) (vs := [2, 3, 4]) (by decide) nd) dgs_nil))))) (fun _ _ _ _ _ => dts_nil) (fun _ _ _ _ _ => (DC.de (dc_gt (DE.db (de_len  (f_len V) (db_var (i := 3)))) (DE.db (de_con (c := "Lots") (d := .int 8) (g_Lots V) (cl_Lots V) h_cn_Lots_MOST_FILMS (fun _ => rfl) (db_var (i := 0)))))))))))) (dss_one ds_never) dss_nil)
  (dss_cons (ds_set (i := 5) nd (DN.de (dn_dc (own := [("house", 2), ("films", 3), ("wanted", 4)]) rfl nd (di_seq (de_var (i := 1))) (by refine ⟨rfl, ?_, ?_, ?_, ?_⟩ <;> first | exact of_decide_eq_true (by kernel_rfl) | decide +kernel) (fun _ _ _ _ _ => (dg_tup (n := 3) rfl (dgs_cons (dg_name (i := 2) (vs := [2, 3, 4]) (by decide) nd) (dgs_cons (dg_name (i := 3) (vs := [2, 3, 4]) (by decide) nd) (dgs_cons (dg_name (i := 4) (vs := [2, 3, 4]) (by decide) nd) dgs_nil))))) (fun _ _ _ _ _ => dts_nil) (fun _ _ _ _ _ => (de_var (i := 2))) (fun _ _ _ _ _ => (de_tup (da_cons (de_tuple1 (f_tuple V) (DN.de (dn_sorted hr (f_sorted V) (db_var (i := 3))))) (da_cons (de_var (i := 4)) da_nil)))))))
  (dss_one (ds_fldset (i := 0) (na_Lots_own_lots V) (DN.de (dn_dc (own := [("house", 2)]) rfl nd (di_seq (DN.de (dn_sortedB rfl hr (f_sorted V) (db_var (i := 5))))) (by refine ⟨rfl, ?_, ?_, ?_, ?_⟩ <;> first | exact of_decide_eq_true (by kernel_rfl) | decide +kernel) (fun _ _ _ _ _ => (dg_name (i := 2) (vs := [2]) (by decide) nd)) (fun _ _ _ _ _ => dts_nil) (fun _ _ _ _ _ => (de_var (i := 2))) (fun _ _ _ _ _ => (de_atK hr (db_var (i := 5)) (db_var (i := 2))))))))))))
theorem c_Lots_init (V : WD K mg) : CalB P w K mg base 5 (He.ma K (He.ga K "Lots") "__init__") b_Lots_init := by
  obtain ⟨fd, F⟩ := V.d.def_ 23 (d := df_23) rfl
  exact cal_B F sc_Lots_init (ok_Lots_init V _) (fun _ _ _ _ _ _ us hl => match us, hl with | [_, _], _ => rfl)
/-! llots -/
def s_llots : En → SR :=
  (sRet (eMake "Lots" b_Lots_init (aCons (eBin ixG (bOf (eLst (aCons (eUn revD (bVar 1)) (aCons (eVar 1) aNil)))) (bOf (eCallB b_ldraw 0 (aCons (eC (.int 2)) aNil)))) aNil)))
def b_llots : D → List D → Res (D × D) := runB 2 2 s_llots
abbrev nm_llots : List Str := ["_law_pot_here", "_law_rows_here"]
theorem sc_llots : FnScope nm_llots ["_law_pot_here", "_law_rows_here"] (defScope (top 31)) := ⟨rfl, rfl, rfl, by decide +kernel, rfl, by decide +kernel, by decide +kernel⟩
theorem ok_llots (V : WD K mg) (fA : Addr) : BodyOk P w K mg base 6 nm_llots "_law_lots" (defScope (top 31)) fA (defBody (top 31)) s_llots := by
  intro cdv A outer s H E hr
  have nd := (sc_llots).nd
  exact (dss_one (ds_ret (DN.de (dn_make (c_Lots_init V) tk_def hr (by decide) rfl (g_Lots V) (mk_Lots V) (da_cons (de_at (DE.db (DN.de (dn_lst (da_cons (DN.de (dn_rev (db_var (i := 1)))) (da_cons (de_var (i := 1)) da_nil))))) (DE.db (de_callB (i := 0) (c_ldraw V) tk_def hr (by decide) rfl (g_law_draw V) (da_cons de_int da_nil)))) da_nil)))))
theorem c_llots (V : WD K mg) : CalB P w K mg base 7 (He.ga K "_law_lots") b_llots := by
  obtain ⟨fd, F⟩ := V.d.def_ 24 (d := df_24) rfl
  exact cal_B F sc_llots (ok_llots V _) (fun _ _ _ _ _ _ us hl => match us, hl with | [_, _], _ => rfl)
/-! lodd_right -/
def s_lodd_right_1 : En → SR :=
  (sOwn 2 (eLst (aCons (eC .non) (aCons (eC (.bl true)) (aCons (eC (.int 0)) (aCons (eC (.str "x")) (aCons (eC (.str "")) (aCons (eLst (aCons (eC .non) aNil)) (aCons (eTup aNil) (aCons eDict0 (aCons (eLst (aCons (eLst aNil) aNil)) (aCons (eDisp1 (eC (.str "qq")) (eLst aNil)) (aCons (eDisp1 (eC (.int 0)) (eLst aNil)) (aCons (eLst (aCons (eTup (aCons (eC (.str "x")) (aCons (eLst aNil) aNil))) aNil)) (aCons (eBin catL (bVar 1) (bVar 1)) (aCons (eLst (aCons (eC (.str "qq")) aNil)) aNil))))))))))))))))
def e_lodd_right_1 : En → Res (D × En) :=
  (eLc (iSeq (eVar 1)) (gNm 3) tYesD (eTup (aCons (eVar 3) (aCons (eC .non) aNil))) [3])
def e_lodd_right_2 : En → Res (D × En) :=
  (eLc (iSeq (eVar 1)) (gNm 3) tYesD (eTup (aCons (eVar 3) (aCons (eC (.str "f")) aNil))) [3])
def e_lodd_right_3 : En → Res (D × En) :=
  (eLc (iSeq (eVar 1)) (gNm 3) tYesD (eTup (aCons (eVar 3) (aCons (eLst (aCons (eC .non) aNil)) aNil))) [3])
def e_lodd_right_4 : En → Res (D × En) :=
  (eLc (iSeq (eVar 2)) (gNm 4) tYesD (eOr (eCall d_is_taking (aCons (eVar 0) (aCons (eVar 4) aNil))) (eOr (eCall d_is_choice (aCons (eVar 0) (aCons (eVar 4) aNil))) (eCall d_is_cut (aCons (eVar 0) (aCons (eVar 4) aNil))))) [4])
def s_lodd_right : En → SR :=
  (sSeq s_lodd_right_1
  (sSeq (sAppend 2 (eUn (orU dictD dictP) (bOf e_lodd_right_1)))
  (sSeq (sAppend 2 (eUn (orU dictD dictP) (bOf e_lodd_right_2)))
  (sSeq (sAppend 2 (eUn (orU dictD dictP) (bOf e_lodd_right_3)))
  (sRet (eNot (eUn anyD (bOf e_lodd_right_4))))))))
def d_lodd_right : List D → Res D := runF 5 2 s_lodd_right
abbrev nm_lodd_right : List Str := ["_law_offer", "_law_houses", "_law_odd", "_law_firm", "_law_thing"]
theorem sc_lodd_right : FnScope nm_lodd_right ["_law_offer", "_law_houses"] (defScope (top 39)) := ⟨rfl, rfl, rfl, by decide +kernel, rfl, by decide +kernel, by decide +kernel⟩
theorem ok_lodd_right (V : WD K mg) (fA : Addr) : BodyOk P w K mg base 6 nm_lodd_right "_law_odd_right" (defScope (top 39)) fA (defBody (top 39)) s_lodd_right := by
  intro cdv A outer s H E hr
  have nd := (sc_lodd_right).nd
  exact (dss_cons (ds_own (i := 2) nd (dn_lst (da_cons de_non (da_cons de_bl (da_cons de_int (da_cons de_str (da_cons de_str (da_cons (DN.de (dn_lst (da_cons de_non da_nil))) (da_cons (de_tup da_nil) (da_cons (DN.de dn_dict0) (da_cons (DN.de (dn_lst (da_cons (DN.de (dn_lst da_nil)) da_nil))) (da_cons (DN.de (dn_disp1 de_str (DN.de (dn_lst da_nil)))) (da_cons (DN.de (dn_disp1 de_int (DN.de (dn_lst da_nil)))) (da_cons (DN.de (dn_lst (da_cons (de_tup (da_cons de_str (da_cons (DN.de (dn_lst da_nil)) da_nil))) da_nil))) (da_cons (DN.de (dn_cat (db_var (i := 1)) (db_var (i := 1)))) (da_cons (DN.de (dn_lst (da_cons de_str da_nil))) da_nil))))))))))))))))
  (dss_cons (ds_append (i := 2) (DN.de (dn_dict1 rfl (f_dict V) (DE.db (DN.de (dn_lc (own := [("_law_firm", 3)]) rfl nd (di_seq (de_var (i := 1))) (by refine ⟨rfl, ?_, ?_, ?_, ?_⟩ <;> first | exact of_decide_eq_true (by kernel_rfl) | decide +kernel) (fun _ _ _ _ _ => (dg_name (i := 3) (vs := [3]) (by decide) nd)) (fun _ _ _ _ _ => dts_nil) (fun _ _ _ _ _ => (de_tup (da_cons (de_var (i := 3)) (da_cons de_non da_nil))))))))))
  (dss_cons (ds_append (i := 2) (DN.de (dn_dict1 rfl (f_dict V) (DE.db (DN.de (dn_lc (own := [("_law_firm", 3)]) rfl nd (di_seq (de_var (i := 1))) (by refine ⟨rfl, ?_, ?_, ?_, ?_⟩ <;> first | exact of_decide_eq_true (by kernel_rfl) | decide +kernel) (fun _ _ _ _ _ => (dg_name (i := 3) (vs := [3]) (by decide) nd)) (fun _ _ _ _ _ => dts_nil) (fun _ _ _ _ _ => (de_tup (da_cons (de_var (i := 3)) (da_cons de_str da_nil))))))))))
  (dss_cons (ds_append (i := 2) (DN.de (dn_dict1 rfl (f_dict V) (DE.db (DN.de (dn_lc (own := [("_law_firm", 3)]) rfl nd (di_seq (de_var (i := 1))) (by refine ⟨rfl, ?_, ?_, ?_, ?_⟩ <;> first | exact of_decide_eq_true (by kernel_rfl) | decide +kernel) (fun _ _ _ _ _ => (dg_name (i := 3) (vs := [3]) (by decide) nd)) (fun _ _ _ _ _ => dts_nil) (fun _ _ _ _ _ => (de_tup (da_cons (de_var (i := 3)) (da_cons (DN.de (dn_lst (da_cons de_non da_nil))) da_nil))))))))))
  (dss_one (ds_ret (de_not (de_any rfl (f_any V) (DE.db (DN.de (dn_lc (own := [("_law_thing", 4)]) rfl nd (di_seq (de_var (i := 2))) (by refine ⟨rfl, ?_, ?_, ?_, ?_⟩ <;> first | exact of_decide_eq_true (by kernel_rfl) | decide +kernel) (fun _ _ _ _ _ => (dg_name (i := 4) (vs := [4]) (by decide) nd)) (fun _ _ _ _ _ => dts_nil) (fun _ _ _ _ _ => (de_or (de_call (c_is_taking V) takes0 hr (by decide) rfl (g_is_taking V) (da_cons (de_var (i := 0)) (da_cons (de_var (i := 4)) da_nil))) (de_or (de_call (c_is_choice V) takes0 hr (by decide) rfl (g_is_choice V) (da_cons (de_var (i := 0)) (da_cons (de_var (i := 4)) da_nil))) (de_one (de_call (c_is_cut V) takes0 hr (by decide) rfl (g_is_cut V) (da_cons (de_var (i := 0)) (da_cons (de_var (i := 4)) da_nil))))))))))))))))))
theorem c_lodd_right (V : WD K mg) : CalA P w K mg base 7 (He.ga K "_law_odd_right") d_lodd_right := by
  obtain ⟨fd, F⟩ := V.d.def_ 25 (d := df_25) rfl
  exact cal_A F sc_lodd_right (ok_lodd_right V _) (fun _ _ _ _ _ _ us hl => match us, hl with | [_, _], _ => rfl)
/-! lpick -/
def s_lpick : En → SR :=
  (sRet (eBin ixG (bVar 1) (bOf (eCallB b_ldraw 0 (aCons (eUn (orU lenD lenK) (bVar 1)) aNil)))))
def b_lpick : D → List D → Res (D × D) := runB 2 2 s_lpick
abbrev nm_lpick : List Str := ["_law_pot_here", "_law_some"]
theorem sc_lpick : FnScope nm_lpick ["_law_pot_here", "_law_some"] (defScope (top 29)) := ⟨rfl, rfl, rfl, by decide +kernel, rfl, by decide +kernel, by decide +kernel⟩
theorem ok_lpick (V : WD K mg) (fA : Addr) : BodyOk P w K mg base 1 nm_lpick "_law_pick" (defScope (top 29)) fA (defBody (top 29)) s_lpick := by
  intro cdv A outer s H E hr
  have nd := (sc_lpick).nd
  exact (dss_one (ds_ret (de_at (db_var (i := 1)) (DE.db (de_callB (i := 0) (c_ldraw V) tk_def hr (by decide) rfl (g_law_draw V) (da_cons (de_len  (f_len V) (db_var (i := 1))) da_nil))))))
theorem c_lpick (V : WD K mg) : CalB P w K mg base 2 (He.ga K "_law_pick") b_lpick := by
  obtain ⟨fd, F⟩ := V.d.def_ 26 (d := df_26) rfl
  exact cal_B F sc_lpick (ok_lpick V _) (fun _ _ _ _ _ _ us hl => match us, hl with | [_, _], _ => rfl)
/-! lrows -/
def e_lrows_1 : En → Res (D × En) :=
  (eLc (iSeq (eSl slL (bOf (eLst (aCons (eC (.str "f")) (aCons (eC (.str "g")) (aCons (eC (.str "h")) (aCons (eC (.str "k")) (aCons (eC (.str "l")) (aCons (eC (.str "m")) aNil)))))))) doNone (doSome (eVar 2)))) (gNm 6) (tOfE (eBin eqD (bOf (eCallB b_ldraw 0 (aCons (eC (.int 2)) aNil))) (bOf (eC (.int 0))))) (eVar 6) [6])
def s_lrows_2_2 : En → SR :=
  (sAppend 3 (eTup (aCons (eVar 4) (aCons (eIf (tOfE (eBin neD (bVar 5) (bOf (eLst aNil)))) (eUn revD (bVar 5)) (eLst (aCons (eC (.str "f")) aNil))) (aCons (eBin ixG (bOf (eLst (aCons (eC (.int 0)) (aCons (eC (.int 1)) (aCons (eC (.int 1)) (aCons (eC (.int 2)) (aCons (eC (.int 1)) (aCons (eC (.int 3)) aNil)))))))) (bOf (eCallB b_ldraw 0 (aCons (eC (.int 6)) aNil)))) aNil)))))
def s_lrows_2_b : En → SR :=
  (sSeq (sSet 5 e_lrows_1)
  s_lrows_2_2)
def s_lrows_2 : En → SR :=
  (sFor (iSeq (eSl slL (bOf (eLst (aCons (eC (.str "x")) (aCons (eC (.str "y")) (aCons (eC (.str "z")) (aCons (eC (.str "w")) (aCons (eC (.str "v")) aNil))))))) doNone (doSome (eBin addI (bOf (eC (.int 1))) (bOf (eCallB b_ldraw 0 (aCons (eVar 1) aNil))))))) (gNm 4) s_lrows_2_b)
def s_lrows : En → SR :=
  (sSeq (sOwn 3 (eLst aNil))
  (sSeq s_lrows_2
  (sRet (eVar 3))))
def b_lrows : D → List D → Res (D × D) := runB 7 3 s_lrows
abbrev nm_lrows : List Str := ["_law_pot_here", "_law_most", "_law_reels", "_law_found", "_law_firm", "_law_some", "_law_film"]
theorem sc_lrows : FnScope nm_lrows ["_law_pot_here", "_law_most", "_law_reels"] (defScope (top 30)) := ⟨rfl, rfl, rfl, by decide +kernel, rfl, by decide +kernel, by decide +kernel⟩
theorem ok_lrows (V : WD K mg) (fA : Addr) : BodyOk P w K mg base 1 nm_lrows "_law_rows" (defScope (top 30)) fA (defBody (top 30)) s_lrows := by
  intro cdv A outer s H E hr
  have nd := (sc_lrows).nd
  exact (dss_cons (ds_own (i := 3) nd (dn_lst da_nil))
  (dss_cons (ds_for own_def rfl (di_seq (DN.de (dn_sl (DE.db (DN.de (dn_lst (da_cons de_str (da_cons de_str (da_cons de_str (da_cons de_str (da_cons de_str da_nil)))))))) do_none (do_some (de_add (DE.db de_int) (DE.db (de_callB (i := 0) (c_ldraw V) tk_def hr (by decide) rfl (g_law_draw V) (da_cons (de_var (i := 1)) da_nil)))))))) (dg_name (i := 4) (vs := [4]) (by decide) nd) (dss_cons (ds_setLc (i := 5) (own := [("_law_film", 6)]) rfl nd (di_seq (DN.de (dn_sl (DE.db (DN.de (dn_lst (da_cons de_str (da_cons de_str (da_cons de_str (da_cons de_str (da_cons de_str (da_cons de_str da_nil))))))))) do_none (do_some (de_var (i := 2)))))) (by refine ⟨rfl, ?_, ?_, ?_, ?_⟩ <;> first | exact of_decide_eq_true (by kernel_rfl) | decide +kernel) (fun _ _ _ _ _ => (dg_name (i := 6) (vs := [6]) (by decide) nd)) (fun _ _ _ _ _ => (dts_one (DC.dt (dc_eq hr (DE.db (de_callB (i := 0) (c_ldraw V) takes0 hr (by decide) rfl (g_law_draw V) (da_cons de_int da_nil))) (DE.db de_int))))) (fun _ _ _ _ _ => (de_var (i := 6))) rfl)
  (dss_one (ds_append (i := 3) (de_tup (da_cons (de_var (i := 4)) (da_cons (de_if (DC.dt (dc_ne hr (db_var (i := 5)) (DE.db (DN.de (dn_lst da_nil))))) (DN.de (dn_rev (db_var (i := 5)))) (DN.de (dn_lst (da_cons de_str da_nil)))) (da_cons (de_at (DE.db (DN.de (dn_lst (da_cons de_int (da_cons de_int (da_cons de_int (da_cons de_int (da_cons de_int (da_cons de_int da_nil))))))))) (DE.db (de_callB (i := 0) (c_ldraw V) tk_def hr (by decide) rfl (g_law_draw V) (da_cons de_int da_nil)))) da_nil))))))))
  (dss_one (ds_ret (de_var (i := 3))))))
theorem c_lrows (V : WD K mg) : CalB P w K mg base 2 (He.ga K "_law_rows") b_lrows := by
  obtain ⟨fd, F⟩ := V.d.def_ 27 (d := df_27) rfl
  exact cal_B F sc_lrows (ok_lrows V _) (fun _ _ _ _ _ _ us hl => match us, hl with | [_, _, _], _ => rfl)
/-! lspoilt -/
def e_lspoilt_1 : En → Res (D × En) :=
  (eLc (iKeyD (eVar 2)) (gNm 5) tYesD (eTup (aCons (eVar 5) (aCons (eUn listD (bOf (eBin dgetD (bVar 2) (bVar 5)))) aNil))) [5])
def s_lspoilt_3_e_1_e_1_e_1_e_1_e_1_e_1 : En → SR :=
  (sIf (tOfE (eBin eqD (bVar 6) (bOf (eC (.int 7))))) (sDPutD 3 (eVar 4) (eUn (orU (orU sortedD sortedT) sortedK) (bOf (eBin catL (bOf (eBin dgetD (bVar 3) (bVar 4))) (bOf (eBin dgetD (bVar 3) (bOf (eCallB b_lpick 0 (aCons (eUn (orU (orU sortedD sortedT) sortedK) (bVar 2)) aNil))))))))) sNop)
def s_lspoilt_3_e_1_e_1_e_1_e_1_e_1 : En → SR :=
  (sIf (tOfE (eBin eqD (bVar 6) (bOf (eC (.int 6))))) (sDPutD 3 (eVar 4) (eSl slA (bOf (eBin dgetD (bVar 3) (bVar 4))) (doSome (eC (.int 1))) doNone)) s_lspoilt_3_e_1_e_1_e_1_e_1_e_1_e_1)
def s_lspoilt_3_e_1_e_1_e_1_e_1 : En → SR :=
  (sIf (tOfE (eBin eqD (bVar 6) (bOf (eC (.int 5))))) (sDPutD 3 (eC (.str "qq")) (eLst aNil)) s_lspoilt_3_e_1_e_1_e_1_e_1_e_1)
def s_lspoilt_3_e_1_e_1_e_1 : En → SR :=
  (sIf (tOfE (eBin eqD (bVar 6) (bOf (eC (.int 4))))) (sExpr (eDPop 3 (eVar 4))) s_lspoilt_3_e_1_e_1_e_1_e_1)
def s_lspoilt_3_e_1_e_1 : En → SR :=
  (sIf (tOfE (eBin eqD (bVar 6) (bOf (eC (.int 3))))) (sDPutD 3 (eVar 4) (eUn tupleD (bOf (eBin dgetD (bVar 3) (bVar 4))))) s_lspoilt_3_e_1_e_1_e_1)
def s_lspoilt_3_e_1 : En → SR :=
  (sIf (tOfE (eBin eqD (bVar 6) (bOf (eC (.int 2))))) (sDPutD 3 (eVar 4) (eUn revD (bOf (eBin dgetD (bVar 3) (bVar 4))))) s_lspoilt_3_e_1_e_1)
def s_lspoilt_3 : En → SR :=
  (sIf (tOfE (eBin ltI (bVar 6) (bOf (eC (.int 2))))) (sDPutD 3 (eVar 4) (eBin catL (bOf (eBin dgetD (bVar 3) (bVar 4))) (bOf (eLst (aCons (eCallB b_lpick 0 (aCons (eLst (aCons (eC (.str "f")) (aCons (eC (.str "g")) (aCons (eC (.str "h")) (aCons (eC (.str "k")) (aCons (eC (.str "l")) (aCons (eC (.str "m")) aNil))))))) aNil)) aNil))))) s_lspoilt_3_e_1)
def s_lspoilt : En → SR :=
  (sSeq (sParO 3 4 (eUn (orU dictD dictP) (bOf e_lspoilt_1)) (eCallB b_lpick 0 (aCons (eUn (orU (orU sortedD sortedT) sortedK) (bVar 2)) aNil)))
  (sSeq (sSet 6 (eCallB b_ldraw 0 (aCons (eC (.int 9)) aNil)))
  (sSeq s_lspoilt_3
  (sRet (eVar 3)))))
def b_lspoilt : D → List D → Res (D × D) := runB 7 3 s_lspoilt
abbrev nm_lspoilt : List Str := ["_law_pot_here", "_law_rows_here", "_law_way", "_law_told", "_law_firm", "_law_tag", "_law_turn"]
theorem sc_lspoilt : FnScope nm_lspoilt ["_law_pot_here", "_law_rows_here", "_law_way"] (defScope (top 36)) := ⟨rfl, rfl, rfl, by decide +kernel, rfl, by decide +kernel, by decide +kernel⟩
theorem ok_lspoilt (V : WD K mg) (fA : Addr) : BodyOk P w K mg base 2 nm_lspoilt "_law_spoilt" (defScope (top 36)) fA (defBody (top 36)) s_lspoilt := by
  intro cdv A outer s H E hr
  have nd := (sc_lspoilt).nd
  exact (dss_cons (ds_parO (i := 3) (j := 4) rfl nd (dn_dict1 rfl (f_dict V) (DE.db (DN.de (dn_lc (own := [("_law_tag", 5)]) rfl nd (di_keys (de_var (i := 2))) (by refine ⟨rfl, ?_, ?_, ?_, ?_⟩ <;> first | exact of_decide_eq_true (by kernel_rfl) | decide +kernel) (fun _ _ _ _ _ => (dg_name (i := 5) (vs := [5]) (by decide) nd)) (fun _ _ _ _ _ => dts_nil) (fun _ _ _ _ _ => (de_tup (da_cons (de_var (i := 5)) (da_cons (DN.de (dn_list1  (f_list V) (DE.db (de_atK hr (db_var (i := 2)) (db_var (i := 5)))))) da_nil)))))))) (de_callB (i := 0) (c_lpick V) tk_def hr (by decide) rfl (g_law_pick V) (da_cons (DN.de (dn_sortedB rfl hr (f_sorted V) (db_var (i := 2)))) da_nil)))
  (dss_cons (ds_set (i := 6) nd (de_callB (i := 0) (c_ldraw V) tk_def hr (by decide) rfl (g_law_draw V) (da_cons de_int da_nil)))
  (dss_cons (ds_if (DC.dt (dc_lt (db_var (i := 6)) (DE.db de_int))) (dss_one (ds_dput (i := 3) (Room.u1 hr) (de_var (i := 4)) (DN.de (dn_cat (DE.db (de_atK hr (db_var (i := 3)) (db_var (i := 4)))) (DE.db (DN.de (dn_lst (da_cons (de_callB (i := 0) (c_lpick V) tk_def hr (by decide) rfl (g_law_pick V) (da_cons (DN.de (dn_lst (da_cons de_str (da_cons de_str (da_cons de_str (da_cons de_str (da_cons de_str (da_cons de_str da_nil)))))))) da_nil)) da_nil)))))))) (dss_one (ds_if (DC.dt (dc_eq hr (db_var (i := 6)) (DE.db de_int))) (dss_one (ds_dput (i := 3) (Room.u1 hr) (de_var (i := 4)) (DN.de (dn_rev (DE.db (de_atK hr (db_var (i := 3)) (db_var (i := 4)))))))) (dss_one (ds_if (DC.dt (dc_eq hr (db_var (i := 6)) (DE.db de_int))) (dss_one (ds_dput (i := 3) (Room.u1 hr) (de_var (i := 4)) (de_tuple1 (f_tuple V) (de_atK hr (db_var (i := 3)) (db_var (i := 4)))))) (dss_one (ds_if (DC.dt (dc_eq hr (db_var (i := 6)) (DE.db de_int))) (dss_one (ds_expr (de_dpop (i := 3) (de_var (i := 4))))) (dss_one (ds_if (DC.dt (dc_eq hr (db_var (i := 6)) (DE.db de_int))) (dss_one (ds_dput (i := 3) (Room.u1 hr) de_str (DN.de (dn_lst da_nil)))) (dss_one (ds_if (DC.dt (dc_eq hr (db_var (i := 6)) (DE.db de_int))) (dss_one (ds_dput (i := 3) (Room.u1 hr) (de_var (i := 4)) (de_slA (de_atK hr (db_var (i := 3)) (db_var (i := 4))) (do_some de_int) do_none))) (dss_one (ds_if (DC.dt (dc_eq hr (db_var (i := 6)) (DE.db de_int))) (dss_one (ds_dput (i := 3) (Room.u1 hr) (de_var (i := 4)) (DN.de (dn_sortedB rfl hr (f_sorted V) (DE.db (DN.de (dn_cat (DE.db (de_atK hr (db_var (i := 3)) (db_var (i := 4)))) (DE.db (de_atK hr (db_var (i := 3)) (DE.db (de_callB (i := 0) (c_lpick V) tk_def hr (by decide) rfl (g_law_pick V) (da_cons (DN.de (dn_sortedB rfl hr (f_sorted V) (db_var (i := 2)))) da_nil)))))))))))) dss_nil)))))))))))))
  (dss_one (ds_ret (de_var (i := 3)))))))
theorem c_lspoilt (V : WD K mg) : CalB P w K mg base 3 (He.ga K "_law_spoilt") b_lspoilt := by
  obtain ⟨fd, F⟩ := V.d.def_ 28 (d := df_28) rfl
  exact cal_B F sc_lspoilt (ok_lspoilt V _) (fun _ _ _ _ _ _ us hl => match us, hl with | [_, _, _], _ => rfl)
/-! ltakings -/
def e_ltakings_1 : En → Res (D × En) :=
  (eLc (iSeq (eVar 0)) (gNm 2) tYesD (eTup (aCons (eBin ixG (bVar 2) (bOf (eC (.int 0)))) (aCons (eLst aNil) aNil))) [2])
def e_ltakings_2 : En → Res (D × En) :=
  (eLc (iKeyD (eVar 5)) (gNm 9) tYesD (eTup (aCons (eVar 9) (aCons (eBin catL (bOf (eBin dgetD (bVar 5) (bVar 9))) (bOf (eIf (tOfE (eBin eqD (bVar 9) (bVar 6))) (eLst (aCons (eVar 3) aNil)) (eLst aNil)))) aNil))) [9])
def s_ltakings_2_2_2_1 : En → SR :=
  (sIf (tAndD (tOfE (eBin inLst (bVar 3) (bVar 7))) (tOfE (eBin ltI (bOf (eUn (orU lenD lenK) (bOf (eBin dgetD (bVar 5) (bVar 6))))) (bVar 8)))) (sAppend 4 (eUn (orU dictD dictP) (bOf e_ltakings_2))) sNop)
def s_ltakings_2_2_2 : En → SR :=
  (sFor (iSeq (eVar 0)) (gTp 3 (gsCons (gNm 6) (gsCons (gNm 7) (gsCons (gNm 8) gsNil)))) s_ltakings_2_2_2_1)
def s_ltakings_2_2_b : En → SR :=
  (sSeq (sAppend 4 (eVar 5))
  s_ltakings_2_2_2)
def s_ltakings_2_2 : En → SR :=
  (sFor (iSeq (eVar 1)) (gNm 5) s_ltakings_2_2_b)
def e_ltakings_3 : En → Res (D × En) :=
  (eLc (iSeq (eVar 4)) (gNm 10) tYesD (eVar 10) [10])
def s_ltakings_2_b : En → SR :=
  (sSeq (sOwn 4 (eLst aNil))
  (sSeq s_ltakings_2_2
  (sSet 1 e_ltakings_3)))
def s_ltakings_2 : En → SR :=
  (sFor (iSeq (eCall d_lfilms (aCons (eVar 0) aNil))) (gNm 3) s_ltakings_2_b)
def s_ltakings : En → SR :=
  (sSeq (sSet 1 (eLst (aCons (eUn (orU dictD dictP) (bOf e_ltakings_1)) aNil)))
  (sSeq s_ltakings_2
  (sRet (eVar 1))))
def d_ltakings : List D → Res D := runF 11 1 s_ltakings
abbrev nm_ltakings : List Str := ["_law_rows_here", "_law_found", "_law_entry", "_law_film", "_law_longer", "_law_some", "_law_firm", "_law_reels", "_law_wish_of", "_law_tag", "_law_one"]
theorem sc_ltakings : FnScope nm_ltakings ["_law_rows_here"] (defScope (top 32)) := ⟨rfl, rfl, rfl, by decide +kernel, rfl, by decide +kernel, by decide +kernel⟩
theorem ok_ltakings (V : WD K mg) (fA : Addr) : BodyOk P w K mg base 1 nm_ltakings "_law_takings" (defScope (top 32)) fA (defBody (top 32)) s_ltakings := by
  intro cdv A outer s H E hr
  have nd := (sc_ltakings).nd
  exact (dss_cons (ds_set (i := 1) nd (DN.de (dn_lst (da_cons (DN.de (dn_dict1 rfl (f_dict V) (DE.db (DN.de (dn_lc (own := [("_law_entry", 2)]) rfl nd (di_seq (de_var (i := 0))) (by refine ⟨rfl, ?_, ?_, ?_, ?_⟩ <;> first | exact of_decide_eq_true (by kernel_rfl) | decide +kernel) (fun _ _ _ _ _ => (dg_name (i := 2) (vs := [2]) (by decide) nd)) (fun _ _ _ _ _ => dts_nil) (fun _ _ _ _ _ => (de_tup (da_cons (de_at (db_var (i := 2)) (DE.db de_int)) (da_cons (DN.de (dn_lst da_nil)) da_nil))))))))) da_nil))))
  (dss_cons (ds_for own_def rfl (di_seq (de_call (c_lfilms V) tk_def hr (by decide) rfl (g_law_films V) (da_cons (de_var (i := 0)) da_nil))) (dg_name (i := 3) (vs := [3]) (by decide) nd) (dss_cons (ds_own (i := 4) nd (dn_lst da_nil))
  (dss_cons (ds_for own_def rfl (di_seq (de_var (i := 1))) (dg_name (i := 5) (vs := [5]) (by decide) nd) (dss_cons (ds_append (i := 4) (de_var (i := 5)))
  (dss_one (ds_for own_def rfl (di_seq (de_var (i := 0))) (dg_tup (n := 3) rfl (dgs_cons (dg_name (i := 6) (vs := [6, 7, 8]) (by decide) nd) (dgs_cons (dg_name (i := 7) (vs := [6, 7, 8]) (by decide) nd) (dgs_cons (dg_name (i := 8) (vs := [6, 7, 8]) (by decide) nd) dgs_nil)))) (dss_one (ds_if (DW.dt (dw_and (DC.dt (dc_inL hr (db_var (i := 3)) (db_var (i := 7)))) (dw_and1 (DC.dt (dc_lt (DE.db (de_len  (f_len V) (DE.db (de_atK hr (db_var (i := 5)) (db_var (i := 6)))))) (db_var (i := 8))))))) (dss_one (ds_append (i := 4) (DN.de (dn_dict1 rfl (f_dict V) (DE.db (DN.de (dn_lc (own := [("_law_tag", 9)]) rfl nd (di_keys (de_var (i := 5))) (by refine ⟨rfl, ?_, ?_, ?_, ?_⟩ <;> first | exact of_decide_eq_true (by kernel_rfl) | decide +kernel) (fun _ _ _ _ _ => (dg_name (i := 9) (vs := [9]) (by decide) nd)) (fun _ _ _ _ _ => dts_nil) (fun _ _ _ _ _ => (de_tup (da_cons (de_var (i := 9)) (da_cons (DN.de (dn_cat (DE.db (de_atK hr (db_var (i := 5)) (db_var (i := 9)))) (DE.db (de_if (DC.dt (dc_eq hr (db_var (i := 9)) (db_var (i := 6)))) (DN.de (dn_lst (da_cons (de_var (i := 3)) da_nil))) (DN.de (dn_lst da_nil)))))) da_nil))))))))))) dss_nil))))))
  (dss_one (ds_setLc (i := 1) (own := [("_law_one", 10)]) rfl nd (di_seq (de_var (i := 4))) (by refine ⟨rfl, ?_, ?_, ?_, ?_⟩ <;> first | exact of_decide_eq_true (by kernel_rfl) | decide +kernel) (fun _ _ _ _ _ => (dg_name (i := 10) (vs := [10]) (by decide) nd)) (fun _ _ _ _ _ => dts_nil) (fun _ _ _ _ _ => (de_var (i := 10))) rfl)))))
  (dss_one (ds_ret (de_var (i := 1))))))
theorem c_ltakings (V : WD K mg) : CalA P w K mg base 2 (He.ga K "_law_takings") d_ltakings := by
  obtain ⟨fd, F⟩ := V.d.def_ 29 (d := df_29) rfl
  exact cal_A F sc_ltakings (ok_ltakings V _) (fun _ _ _ _ _ _ us hl => match us, hl with | [_], _ => rfl)
/-! lright -/
def e_lright_1 : En → Res (D × En) :=
  (eLc (iSeq (eVar 1)) (gNm 5) tYesD (eBin ixG (bVar 5) (bOf (eC (.int 0)))) [5])
def s_lright_4_3 : En → SR :=
  (sIf (tOrD (tNotD (tOfE (eCall d_ljudged (aCons (eVar 1) (aCons (eVar 2) (aCons (eVar 7) aNil)))))) (tNotD (tOfE (eCall d_ljudged (aCons (eVar 1) (aCons (eVar 2) (aCons (eVar 8) aNil))))))) (sRet (eC (.bl false))) sNop)
def e_lright_2 : En → Res (D × En) :=
  (eLc (iSeq (eUn revD (bOf (eUn (orU listD listK) (bVar 8))))) (gNm 9) tYesD (eTup (aCons (eVar 9) (aCons (eBin dgetD (bVar 8) (bVar 9)) aNil))) [9])
def s_lright_4_4 : En → SR :=
  (sIf (tNotD (tOfE (eCall d_ljudged (aCons (eVar 1) (aCons (eVar 2) (aCons (eUn (orU dictD dictP) (bOf e_lright_2)) aNil)))))) (sRet (eC (.bl false))) sNop)
def e_lright_3 : En → Res (D × En) :=
  (eLc (iSeq (eVar 4)) (gNm 9) (tOfE (eBin eqD (bOf (eCallB b_ldraw 0 (aCons (eC (.int 2)) aNil))) (bOf (eC (.int 0))))) (eVar 9) [9])
def s_lright_4_6 : En → SR :=
  (sIf (tOrD (tNotD (tOfE (eCall d_lcut_right (aCons (eVar 1) (aCons (eVar 2) (aCons (eVar 10) aNil)))))) (tNotD (tOfE (eCall d_lcut_right (aCons (eVar 1) (aCons (eVar 2) (aCons (eUn revD (bVar 10)) aNil))))))) (sRet (eC (.bl false))) sNop)
def s_lright_4_b : En → SR :=
  (sSeq (sSet 7 (eCallB b_lpick 0 (aCons (eVar 3) aNil)))
  (sSeq (sSet 8 (eCallB b_lspoilt 0 (aCons (eVar 1) (aCons (eVar 7) aNil))))
  (sSeq s_lright_4_3
  (sSeq s_lright_4_4
  (sSeq (sSet 10 e_lright_3)
  s_lright_4_6)))))
def s_lright_4 : En → SR :=
  (sFor (iRg1 (aCons (eC (.int 12)) aNil)) (gNm 6) s_lright_4_b)
def s_lright : En → SR :=
  (sSeq (sSet 1 (eCallB b_lrows 0 (aCons (eC (.int 4)) (aCons (eC (.int 5)) aNil))))
  (sSeq (sPar 2 3 (aCons (eCallB b_llots 0 (aCons (eVar 1) aNil)) (aCons (eCall d_ltakings (aCons (eVar 1) aNil)) aNil)))
  (sSeq (sSet 4 (eUn sortedD (bOf e_lright_1)))
  (sSeq s_lright_4
  (sRet (eAnd (eCall d_lodd_right (aCons (eVar 2) (aCons (eVar 4) aNil))) (eBin (orD isN isB) (bOf (eCall d_is_cut (aCons (eVar 2) (aCons (eLst aNil) aNil)))) (bOf (eC (.bl false))))))))))
def b_lright : D → List D → Res (D × D) := runB 11 1 s_lright
abbrev nm_lright : List Str := ["_law_pot_here", "_law_rows_here", "_law_offer", "_law_ways", "_law_houses", "_law_entry", "_law_turn", "_law_way", "_law_told", "_law_firm", "_law_some"]
theorem sc_lright : FnScope nm_lright ["_law_pot_here"] (defScope (top 40)) := ⟨rfl, rfl, rfl, by decide +kernel, rfl, by decide +kernel, by decide +kernel⟩
theorem ok_lright (V : WD K mg) (fA : Addr) : BodyOk P w K mg base 7 nm_lright "_law_right" (defScope (top 40)) fA (defBody (top 40)) s_lright := by
  intro cdv A outer s H E hr
  have nd := (sc_lright).nd
  exact (dss_cons (ds_set (i := 1) nd (de_callB (i := 0) (c_lrows V) tk_def hr (by decide) rfl (g_law_rows V) (da_cons de_int (da_cons de_int da_nil))))
  (dss_cons (ds_par (i := 2) (j := 3) rfl nd (da_cons (de_callB (i := 0) (c_llots V) tk_def hr (by decide) rfl (g_law_lots V) (da_cons (de_var (i := 1)) da_nil)) (da_cons (de_call (c_ltakings V) tk_def hr (by decide) rfl (g_law_takings V) (da_cons (de_var (i := 1)) da_nil)) da_nil)))
  (dss_cons (ds_set (i := 4) nd (DN.de (dn_sorted hr (f_sorted V) (DE.db (DN.de (dn_lc (own := [("_law_entry", 5)]) rfl nd (di_seq (de_var (i := 1))) (by refine ⟨rfl, ?_, ?_, ?_, ?_⟩ <;> first | exact of_decide_eq_true (by kernel_rfl) | decide +kernel) (fun _ _ _ _ _ => (dg_name (i := 5) (vs := [5]) (by decide) nd)) (fun _ _ _ _ _ => dts_nil) (fun _ _ _ _ _ => (de_at (db_var (i := 5)) (DE.db de_int)))))))))
  (dss_cons (ds_for own_def rfl (di_range1 rfl (f_range V) (da_cons de_int da_nil)) (dg_name (i := 6) (vs := [6]) (by decide) nd) (dss_cons (ds_set (i := 7) nd (de_callB (i := 0) (c_lpick V) tk_def hr (by decide) rfl (g_law_pick V) (da_cons (de_var (i := 3)) da_nil)))
  (dss_cons (ds_set (i := 8) nd (de_callB (i := 0) (c_lspoilt V) tk_def hr (by decide) rfl (g_law_spoilt V) (da_cons (de_var (i := 1)) (da_cons (de_var (i := 7)) da_nil))))
  (dss_cons (ds_if (DW.dt (dw_or (dt_not (dt_val (de_call (c_ljudged V) tk_def hr (by decide) rfl (g_law_judged V) (da_cons (de_var (i := 1)) (da_cons (de_var (i := 2)) (da_cons (de_var (i := 7)) da_nil)))))) (dw_or1 (dt_not (dt_val (de_call (c_ljudged V) tk_def hr (by decide) rfl (g_law_judged V) (da_cons (de_var (i := 1)) (da_cons (de_var (i := 2)) (da_cons (de_var (i := 8)) da_nil))))))))) (dss_one (ds_ret de_bl)) dss_nil)
  (dss_cons (ds_if (dt_not (dt_val (de_call (c_ljudged V) tk_def hr (by decide) rfl (g_law_judged V) (da_cons (de_var (i := 1)) (da_cons (de_var (i := 2)) (da_cons (DN.de (dn_dict1 rfl (f_dict V) (DE.db (DN.de (dn_lc (own := [("_law_firm", 9)]) rfl nd (di_seq (DN.de (dn_rev (DE.db (DN.de (dn_listA rfl (f_list V) (db_var (i := 8)))))))) (by refine ⟨rfl, ?_, ?_, ?_, ?_⟩ <;> first | exact of_decide_eq_true (by kernel_rfl) | decide +kernel) (fun _ _ _ _ _ => (dg_name (i := 9) (vs := [9]) (by decide) nd)) (fun _ _ _ _ _ => dts_nil) (fun _ _ _ _ _ => (de_tup (da_cons (de_var (i := 9)) (da_cons (de_atK hr (db_var (i := 8)) (db_var (i := 9))) da_nil))))))))) da_nil)))))) (dss_one (ds_ret de_bl)) dss_nil)
  (dss_cons (ds_setLc (i := 10) (own := [("_law_firm", 9)]) rfl nd (di_seq (de_var (i := 4))) (by refine ⟨rfl, ?_, ?_, ?_, ?_⟩ <;> first | exact of_decide_eq_true (by kernel_rfl) | decide +kernel) (fun _ _ _ _ _ => (dg_name (i := 9) (vs := [9]) (by decide) nd)) (fun _ _ _ _ _ => (dts_one (DC.dt (dc_eq hr (DE.db (de_callB (i := 0) (c_ldraw V) takes0 hr (by decide) rfl (g_law_draw V) (da_cons de_int da_nil))) (DE.db de_int))))) (fun _ _ _ _ _ => (de_var (i := 9))) rfl)
  (dss_one (ds_if (DW.dt (dw_or (dt_not (dt_val (de_call (c_lcut_right V) tk_def hr (by decide) rfl (g_law_cut_right V) (da_cons (de_var (i := 1)) (da_cons (de_var (i := 2)) (da_cons (de_var (i := 10)) da_nil)))))) (dw_or1 (dt_not (dt_val (de_call (c_lcut_right V) tk_def hr (by decide) rfl (g_law_cut_right V) (da_cons (de_var (i := 1)) (da_cons (de_var (i := 2)) (da_cons (DN.de (dn_rev (db_var (i := 10)))) da_nil))))))))) (dss_one (ds_ret de_bl)) dss_nil))))))))
  (dss_one (ds_ret (de_and (de_call (c_lodd_right V) tk_def hr (by decide) rfl (g_law_odd_right V) (da_cons (de_var (i := 2)) (da_cons (de_var (i := 4)) da_nil))) (de_one (DC.de (dc_isB (DE.db (de_call (c_is_cut V) tk_def hr (by decide) rfl (g_is_cut V) (da_cons (de_var (i := 2)) (da_cons (DN.de (dn_lst da_nil)) da_nil)))) (DE.db de_bl)))))))))))
theorem c_lright (V : WD K mg) : CalB P w K mg base 8 (He.ga K "_law_right") b_lright := by
  obtain ⟨fd, F⟩ := V.d.def_ 30 (d := df_30) rfl
  exact cal_B F sc_lright (ok_lright V _) (fun _ _ _ _ _ _ us hl => match us, hl with | [_], _ => rfl)
/-! law -/
def e_law_1 : En → Res (D × En) :=
  (eLc (iRg1 (aCons (eBin max2D (bOf (eC (.int 1))) (bOf (eBin min2D (bOf (eUn (orU lenD lenK) (bVar 0))) (bOf (eC (.int 4)))))) aNil)) (gNm 1) tYesD (eCallBN b_lright (eCall n_lpot (aCons (eVar 0) (aCons (eVar 1) aNil)))) [1])
def s_law : En → SR :=
  (sRet (eUn allD (bOf e_law_1)))
def d_law : List D → Res D := runF 2 1 s_law
abbrev nm_law : List Str := ["_law_script", "_law_k"]
theorem sc_law : FnScope nm_law ["_law_script"] (defScope (top 41)) := ⟨rfl, rfl, rfl, by decide +kernel, rfl, by decide +kernel, by decide +kernel⟩
theorem ok_law (V : WD K mg) (fA : Addr) : BodyOk P w K mg base 8 nm_law "law" (defScope (top 41)) fA (defBody (top 41)) s_law := by
  intro cdv A outer s H E hr
  have nd := (sc_law).nd
  exact (dss_one (ds_ret (de_all rfl (f_all V) (DE.db (DN.de (dn_lc (own := [("_law_k", 1)]) rfl nd (di_range1 rfl (f_range V) (da_cons (de_max2 rfl (f_max V) (DE.db de_int) (DE.db (de_min2 rfl (f_min V) (DE.db (de_len  (f_len V) (db_var (i := 0)))) (DE.db de_int)))) da_nil)) (by refine ⟨rfl, ?_, ?_, ?_, ?_⟩ <;> first | exact of_decide_eq_true (by kernel_rfl) | decide +kernel) (fun _ _ _ _ _ => (dg_name (i := 1) (vs := [1]) (by decide) nd)) (fun _ _ _ _ _ => dts_nil) (fun _ _ _ _ _ => (de_callBN (c_lright V) takes0 hr (by decide) rfl (g_law_right V) (dn_callN (c_lpot V) takes0 hr (by decide) rfl (g_law_pot V) (da_cons (de_var (i := 0)) (da_cons (de_var (i := 1)) da_nil)))))))))))
theorem c_law (V : WD K mg) : CalA P w K mg base 9 (He.ga K "law") d_law := by
  obtain ⟨fd, F⟩ := V.d.def_ 31 (d := df_31) rfl
  exact cal_A F sc_law (ok_law V _) (fun _ _ _ _ _ _ us hl => match us, hl with | [_], _ => rfl)
end
end K82

set_option Elab.async false
set_option linter.all false
set_option maxRecDepth 100000
set_option maxHeartbeats 4000000
namespace K82
open PySem L2 Dl
theorem drawF {pot : D} {n : Int} (h : VP pot) (h0 : 0 < n) (h1 : n < 1073741824) : ∃ k pot', b_ldraw pot [.int n] = .ok (.int k, pot') ∧ 0 ≤ k ∧ k < n ∧ VP pot' := by
  obtain ⟨p0, p1, rfl, a, b, c⟩ := h
  by_cases q : 0 < p0
  · refine ⟨p0 % n, .lst [.int (p0 / n), .int p1], ?_, Int.emod_nonneg _ (by omega), Int.emod_lt_of_pos _ h0, _, _, rfl, Int.ediv_nonneg a (by omega), b, c⟩
    have e : divmodD (.int p0) (.int n) = some (.tup [.int (p0 / n), .int (p0 % n)]) := by
      show (if 0 < n ∧ n < 1073741824 then some (D.tup [.int (p0 / n), .int (p0 % n)]) else none) = _
      rw [if_pos ⟨h0, h1⟩]
    unfold b_ldraw runB s_ldraw s_ldraw_1
    simp [startB, q, e]
  · have b1 : 0 ≤ (p1 * 40009 + 17011) % 2147483549 := Int.emod_nonneg _ (by decide)
    have b2 : (p1 * 40009 + 17011) % 2147483549 < 2147483549 := Int.emod_lt_of_pos _ (by decide)
    have e1 : mulI (.int p1) (.int 40009) = some (.int (p1 * 40009)) := pmul ⟨by omega, by omega⟩
    have e2 : ∀ x : Int, modI (.int x) (.int 2147483549) = some (.int (x % 2147483549)) := fun x => pmod (by decide)
    have e3 : ∀ x : Int, modI (.int x) (.int 2147483587) = some (.int (x % 2147483587)) := fun x => pmod (by decide)
    have e4 : ∀ x : Int, fdivI (.int x) (.int 11) = some (.int (x / 11)) := fun x => pfdiv (by decide) (by decide)
    have e5 : ∀ x : Int, modI (.int x) (.int n) = some (.int (x % n)) := fun x => pmod h0
    have e6 : mulI (.int ((p1 * 40009 + 17011) % 2147483549)) (.int ((p1 * 40009 + 17011) % 2147483549)) = some (.int ((p1 * 40009 + 17011) % 2147483549 * ((p1 * 40009 + 17011) % 2147483549))) := pmul ⟨by omega, by omega⟩
    refine ⟨(((p1 * 40009 + 17011) % 2147483549 * ((p1 * 40009 + 17011) % 2147483549)) % 2147483587 / 11) % n, .lst [.int p0, .int ((p1 * 40009 + 17011) % 2147483549)], ?_, Int.emod_nonneg _ (by omega), Int.emod_lt_of_pos _ h0, _, _, rfl, a, b1, by omega⟩
    unfold b_ldraw runB s_ldraw s_ldraw_1
    simp [startB, q, e1, e2, e3, e4, e5, e6]
theorem pickG {α : Type} {f : α → D} {pot : D} {l : List α} (h : VP pot) (hn : l ≠ []) (hl : l.length ≤ 100000) : ∃ x pot', b_lpick pot [.lst (l.map f)] = .ok (f x, pot') ∧ x ∈ l ∧ VP pot' := by
  have l0 : 0 < l.length := List.length_pos_iff.mpr hn
  obtain ⟨k, pot', e, h0, h1, v⟩ := drawF (n := l.length) h (by omega) (by omega)
  obtain ⟨x, ex, hx⟩ := atI_mem (l := l.map f) (k := k) h0 (by rw [List.length_map]; exact h1)
  obtain ⟨y, hy, rfl⟩ := List.mem_map.mp hx
  refine ⟨y, pot', ?_, hy, v⟩
  unfold b_lpick runB s_lpick
  simp [startB, e, ex]
theorem potF {ns : List Int} {k : Nat} (hk : k ≤ 63) : ∃ pot, n_lpot [.scr ns, .int k] = .ok pot ∧ VP pot := by
  have key : ∀ cell : Int, 0 ≤ cell → ∃ pot, (eLst (aCons (eBin max2D (bOf (eC (.int 0))) (bOf (eBin subI (bVar 2) (bOf (eBin powI (bOf (eC (.int 10))) (bOf (eC (.int 18)))))))) (aCons (eBin addI (bOf (eBin modI (bOf (eBin mulI (bOf (eUn intD (bOf (eBin addI (bOf (eBin modI (bOf (eUn intD (bVar 2))) (bOf (eC (.int 2147483543))))) (bOf (eC (.int 7))))))) (bOf (eBin powI (bOf (eBin addI (bOf (eBin mulI (bOf (eC (.int 2))) (bVar 1))) (bOf (eC (.int 3))))) (bOf (eC (.int 3))))))) (bOf (eC (.int 2147483489))))) (bOf (eC (.int 1)))) aNil)))
      [some (.fz (.scr ns)), some (.fz (.int k)), some (.fz (.int cell))] = .ok (pot, [some (.fz (.scr ns)), some (.fz (.int k)), some (.fz (.int cell))]) ∧ VP pot := by
    intro cell h
    have e1 : powI (.int 10) (.int 18) = some (.int (10 ^ 18)) := rfl
    have e2 : ∀ x : Int, modI (.int x) (.int 2147483543) = some (.int (x % 2147483543)) := fun x => pmod (by decide)
    have e3 : ∀ x : Int, modI (.int x) (.int 2147483489) = some (.int (x % 2147483489)) := fun x => pmod (by decide)
    have e4 : mulI (.int 2) (.int k) = some (.int (2 * k)) := pmul ⟨by decide, by decide⟩
    have e5 : powI (.int (2 * k + 3)) (.int 3) = some (.int ((2 * k + 3) ^ 3)) := by
      show (if 0 ≤ (3 : Int) ∧ (3 : Int) ≤ 1000000 ∧ (2 * (k : Int) + 3).natAbs < 2 ^ 64 then some (D.int ((2 * (k : Int) + 3) ^ (3 : Int).toNat)) else none) = _
      rw [if_pos ⟨by decide, by decide, by omega⟩]
      rfl
    have b1 : 0 ≤ cell % 2147483543 := Int.emod_nonneg _ (by decide)
    have b2 : cell % 2147483543 < 2147483543 := Int.emod_lt_of_pos _ (by decide)
    have e6 : mulI (.int (cell % 2147483543 + 7)) (.int ((2 * k + 3) ^ 3)) = some (.int ((cell % 2147483543 + 7) * (2 * k + 3) ^ 3)) := pmul ⟨by omega, by omega⟩
    have b3 : 0 ≤ (cell % 2147483543 + 7) * (2 * (k : Int) + 3) ^ 3 % 2147483489 := Int.emod_nonneg _ (by decide)
    have b4 : (cell % 2147483543 + 7) * (2 * (k : Int) + 3) ^ 3 % 2147483489 < 2147483489 := Int.emod_lt_of_pos _ (by decide)
    refine ⟨.lst [.int (if cell - 10 ^ 18 > 0 then cell - 10 ^ 18 else 0), .int ((cell % 2147483543 + 7) * (2 * k + 3) ^ 3 % 2147483489 + 1)], ?_, _, _, rfl, ?_, by omega, by omega⟩
    · simp [e1, e2, e3, e4, e5, e6, max2D]
    · split <;> omega
  have e0 : mulI (.int 17) (.int k) = some (.int (17 * k)) := pmul ⟨by decide, by decide⟩
  have el : lenD (.scr ns) = some (.int ns.length) := rfl
  by_cases q : (k : Int) < ns.length
  · obtain ⟨x, ex, _⟩ := atI_mem (l := ns) (k := (k : Int)) (by omega) q
    have ei : ixG (.scr ns) (.int k) = some (.int x) := by
      show (atI ns (k : Int)).map D.int = _
      rw [ex]
      rfl
    obtain ⟨pot, e, v⟩ := key (if x < 0 then -x else x) (by split <;> omega)
    refine ⟨pot, ?_, v⟩
    unfold n_lpot Dl.runN s_lpot
    simp only [startE, pnseq, pset, pbin, pbof, pc, pbvar, psif, ptofe, pun, porU]
    simp [e0, el, q, ei, absD]
    simp at e
    simp [e]
  · obtain ⟨pot, e, v⟩ := key (17 * k + 11) (by omega)
    refine ⟨pot, ?_, v⟩
    unfold n_lpot Dl.runN s_lpot
    simp only [startE, pnseq, pset, pbin, pbof, pc, pbvar, psif, ptofe, pun, porU]
    simp [e0, el, q]
    simp at e
    simp [e]

end K82

set_option Elab.async false
set_option linter.all false
set_option maxRecDepth 100000
set_option maxHeartbeats 4000000
namespace K82
open PySem L2 Dl
structure Nm (x : Str) : Prop where
  nm : d_is_name [.str x] = .ok (.bl true)
  ok : PyData.strOk x = true
  sh : (PyData.str x).shown.length ≤ 20
/-- a list or a tuple -/
def Sq (sq : List D → D) : Prop := sq = D.lst ∨ sq = D.tup
theorem is_list_sq {sq : List D → D} {ds : List D} (hs : Sq sq) : d_is_list [sq ds] = .ok (.bl true) := by
  rcases hs with rfl | rfl <;> rfl
theorem strsOk {xs : List Str} (h : ∀ x ∈ xs, Nm x) : ∀ x ∈ xs, PyData.strOk x = true := fun x hx => (h x hx).ok
theorem are_namesF {sq : List D → D} {xs : List Str} (hs : Sq sq) (h : ∀ x ∈ xs, Nm x) (hl : xs.length ≤ 1000) : d_are_names [sq (xs.map D.str)] = .ok (.bl (decide xs.Nodup)) := by
  have key : e_are_names_1 [some (.fz (sq (xs.map D.str))), none] = .ok (.lst (xs.map fun _ => D.bl true), [some (.fz (sq (xs.map D.str))), none]) := by
    unfold e_are_names_1
    rw [elc_all (l := xs) (f := D.str) (z := fun _ => D.bl true) (r0 := [some (.fz (sq (xs.map D.str))), none])]
    · simp [restore, wipeE]
    · rcases hs with rfl | rfl <;> simp
    · omega
    · intro q hq
      refine ⟨[some (.fz (sq (xs.map D.str))), some (.fz (.str q))], [some (.fz (sq (xs.map D.str))), some (.fz (.str q))], ?_, ?_, ?_⟩
      · simp [wipeE]
      · simp [(h q hq).nm]
      · simp [wipeE]
  have al : allD (.lst (xs.map fun _ => D.bl true)) = some (.bl true) := by
    rw [all_bl (p := fun _ => true)]
    simp
  have c1 : ((cntS xs : Int) = xs.length) ↔ xs.Nodup := by
    rw [← cntS_iff]
    omega
  have e1 := lenSet_str (xs := xs) hl
  have e2 := lenSetT_str (xs := xs) hl
  unfold d_are_names runF s_are_names s_are_names_1
  rcases hs with rfl | rfl
  · simp [startE, is_list_sq (.inl rfl), key, al, e1]
    rw [← c1]
  · simp [startE, is_list_sq (.inr rfl), key, al, e2]
    rw [← c1]
/-! rows and lots -/
abbrev Row : Type := Str × List Str × Int
def eRow (r : Row) : D := .tup [.str r.1, .lst (r.2.1.map D.str), .int r.2.2]
def eRows (rs : List Row) : D := .lst (rs.map eRow)
def firms (rs : List Row) : List Str := rs.map (·.1)
structure VR (rs : List Row) : Prop where
  ne : rs ≠ []
  le : rs.length ≤ 8
  nd : (firms rs).Nodup
  nm : ∀ r ∈ rs, Nm r.1
  fn : ∀ r ∈ rs, ∀ x ∈ r.2.1, Nm x
  fd : ∀ r ∈ rs, r.2.1.Nodup
  f0 : ∀ r ∈ rs, r.2.1 ≠ []
  fl : ∀ r ∈ rs, r.2.1.length ≤ 8
  w0 : ∀ r ∈ rs, 0 ≤ r.2.2
abbrev Lot : Type := List Str × Int
def eLot (l : Lot) : D := .tup [.tup (l.1.map D.str), .int l.2]
/-- what the lots know: by sorted houses, the sorted films and the wish -/
def lots (rs : List Row) : List (Str × Lot) := (sortS (firms rs)).map fun h => (h, (sortS ((getT rs h).getD ([], 0)).1, ((getT rs h).getD ([], 0)).2))
def eLots (rs : List Row) : D := .ins "Lots" [("own_lots", eKd eLot (lots rs))]
theorem ksT_lots {rs : List Row} : ksT (lots rs) = sortS (firms rs) := by
  unfold ksT lots
  rw [List.map_map]
  exact List.map_id _
theorem firms_ks {rs : List Row} : ksT rs = firms rs := rfl
theorem lots_get {rs : List Row} (v : VR rs) {r : Row} (h : r ∈ rs) : getT (lots rs) r.1 = some (sortS r.2.1, r.2.2) := by
  have g : getT rs r.1 = some r.2 := getT_of (l := rs) (x := r.1) (a := r.2) h v.nd
  refine getT_of (x := r.1) (a := (sortS r.2.1, r.2.2)) ?_ ?_
  · unfold lots
    refine List.mem_map.mpr ⟨r.1, (sortS_perm _).mem_iff.mpr (List.mem_map.mpr ⟨r, h, rfl⟩), ?_⟩
    rw [g]
    rfl
  · rw [ksT_lots]
    exact (sortS_perm _).nodup_iff.mpr v.nd
theorem lots_no {rs : List Row} {x : Str} (h : x ∉ firms rs) : getT (lots rs) x = none := getT_none (by rw [ksT_lots]; exact fun z => h ((sortS_perm _).mem_iff.mp z))
section
variable {rs : List Row} {r : Row}
theorem films_ofF (v : VR rs) (h : r ∈ rs) : d_Lots_films_of [eLots rs, .str r.1] = .ok (.lst ((sortS r.2.1).map D.str)) := by
  have g := lots_get v h
  unfold d_Lots_films_of runF s_Lots_films_of eLots eKd
  simp [startE, get_kd, g, eLot]
theorem wanted_byF (v : VR rs) (h : r ∈ rs) : d_Lots_wanted_by [eLots rs, .str r.1] = .ok (.int r.2.2) := by
  have g := lots_get v h
  unfold d_Lots_wanted_by runF s_Lots_wanted_by eLots eKd
  simp [startE, get_kd, g, eLot]
theorem containsF {x : Str} (v : VR rs) : d_Lots_contains [eLots rs, .str x] = .ok (.bl (decide (x ∈ firms rs))) := by
  unfold d_Lots_contains runF s_Lots_contains eLots eKd
  by_cases h : x ∈ firms rs
  · obtain ⟨r, hr, rfl⟩ := List.mem_map.mp h
    have g := lots_get v hr
    simp [startE, get_kd, g, h]
  · have g := lots_no h
    simp [startE, get_kd, g, h]
theorem all_housesF : d_Lots_all_houses [eLots rs] = .ok (.lst ((sortS (firms rs)).map D.str)) := by
  unfold d_Lots_all_houses runF s_Lots_all_houses eLots eKd
  simp [startE, keys_kd, ksT_lots]
end
end K82

set_option Elab.async false
set_option linter.all false
set_option maxRecDepth 100000
set_option maxHeartbeats 4000000
namespace K82
open PySem L2 Dl
theorem neM {a b : List Str} (ha : ∀ x ∈ a, PyData.strOk x = true) (hb : ∀ x ∈ b, PyData.strOk x = true) : neD (.lst (a.map D.str)) (.lst (b.map D.str)) = some (.bl (!decide (a = b))) ∧ eqD (.lst (a.map D.str)) (.lst (b.map D.str)) = some (.bl (decide (a = b))) := by
  by_cases h : a = b
  · subst h
    have := eqD_same (a := eMs a) (fine_ms ha).ok strict_ms
    unfold eMs at this
    simp [this]
  · have := eqD_diff (a := eMs a) (b := eMs b) (fine_ms ha).ok (fine_ms hb).ok strict_ms strict_ms (fun e => h (eMs_inj e))
    unfold eMs at this
    simp [this, h]
theorem inM {a : List Str} {x : Str} (hx : PyData.strOk x = true) (ha : ∀ x ∈ a, PyData.strOk x = true) : inLst (.str x) (.lst (a.map D.str)) = some (.bl (decide (x ∈ a))) ∧ ninLst (.str x) (.lst (a.map D.str)) = some (.bl (!decide (x ∈ a))) := by
  by_cases h : x ∈ a
  · have := inL_yes (x := .str x) (ds := a.map D.str) (fine_str hx).ok (fine_ms ha).ok rfl strict_ms (str_mem.mpr h)
    simp [this, h]
  · have := inL_no (x := .str x) (ds := a.map D.str) (fine_str hx).ok (fine_ms ha).ok rfl strict_ms (fun z => h (str_mem.mp z))
    simp [this, h]
theorem sortM {a : List Str} (ha : ∀ x ∈ a, PyData.strOk x = true) (hl : a.length ≤ 1000) : sortedD (.lst (a.map D.str)) = some (.lst ((sortS a).map D.str)) := sortedD_ms ha (by omega)
theorem sortMT {a : List Str} (ha : ∀ x ∈ a, PyData.strOk x = true) (hl : a.length ≤ 1000) : sortedT (.tup (a.map D.str)) = some (.lst ((sortS a).map D.str)) := sortM ha hl
theorem sortS_ok {a : List Str} (ha : ∀ x ∈ a, PyData.strOk x = true) : ∀ x ∈ sortS a, PyData.strOk x = true := fun x hx => ha x ((sortS_perm a).mem_iff.mp hx)
theorem sortS_mem {a : List Str} {x : Str} : x ∈ sortS a ↔ x ∈ a := (sortS_perm a).mem_iff
section
variable {rs : List Row} {r : Row}
/-- films of the house's lot, sorted, each once -/
def filmsB (r : Row) (xs : List Str) : Bool := decide xs.Nodup && (decide (xs = sortS xs) && xs.all fun x => decide (x ∈ r.2.1))
theorem is_films_ofF {sq : List D → D} {xs : List Str} (hs : Sq sq) (v : VR rs) (h : r ∈ rs) (hx : ∀ x ∈ xs, Nm x) (hl : xs.length ≤ 1000) : d_is_films_of [eLots rs, .str r.1, sq (xs.map D.str)] = .ok (.bl (filmsB r xs)) := by
  have ok := strsOk hx
  have an := are_namesF hs hx hl
  have ne := (neM ok (sortS_ok ok)).1
  have fo := films_ofF v h
  have key : e_is_films_of_1 [some (.fz (eLots rs)), some (.fz (.str r.1)), some (.fz (sq (xs.map D.str))), none] = .ok (.lst (xs.map fun x => D.bl (decide (x ∈ r.2.1))), [some (.fz (eLots rs)), some (.fz (.str r.1)), some (.fz (sq (xs.map D.str))), none]) := by
    unfold e_is_films_of_1
    rw [elc_all (l := xs) (f := D.str) (z := fun x => D.bl (decide (x ∈ r.2.1))) (r0 := [some (.fz (eLots rs)), some (.fz (.str r.1)), some (.fz (sq (xs.map D.str))), none])]
    · simp [restore, wipeE]
    · rcases hs with rfl | rfl <;> simp
    · omega
    · intro q hq
      have i1 := (inM (x := q) (a := sortS r.2.1) (ok q hq) (sortS_ok (strsOk (v.fn r h)))).1
      rw [show decide (q ∈ sortS r.2.1) = decide (q ∈ r.2.1) by simp [sortS_mem]] at i1
      refine ⟨[some (.fz (eLots rs)), some (.fz (.str r.1)), some (.fz (sq (xs.map D.str))), some (.fz (.str q))], [some (.fz (eLots rs)), some (.fz (.str r.1)), some (.fz (sq (xs.map D.str))), some (.fz (.str q))], ?_, ?_, ?_⟩
      · simp [wipeE]
      · unfold eLots at fo ⊢
        simp [fo, i1]
      · simp [wipeE]
  have al := all_bl (l := xs) (p := fun x => decide (x ∈ r.2.1))
  have s1 := sortM ok hl
  have s2 := sortMT ok hl
  unfold d_is_films_of runF s_is_films_of s_is_films_of_1 filmsB
  by_cases n : xs.Nodup
  · by_cases e : xs = sortS xs
    · have ne' : neD (.lst (xs.map D.str)) (.lst ((sortS xs).map D.str)) = some (.bl false) := by rw [ne]; simp [← e]
      rcases hs with rfl | rfl
      · simp [startE, an, n, s1, ne', key, al]
        simp [← e]
      · simp [startE, an, n, s2, ne', key, al]
        simp [← e]
    · have ne' : neD (.lst (xs.map D.str)) (.lst ((sortS xs).map D.str)) = some (.bl true) := by rw [ne]; simp [e]
      rcases hs with rfl | rfl
      · simp [startE, an, n, s1, ne', e]
      · simp [startE, an, n, s2, ne', e]
  · rcases hs with rfl | rfl <;> simp [startE, an, n]
end
end K82

set_option Elab.async false
set_option linter.all false
set_option maxRecDepth 100000
set_option maxHeartbeats 4000000
namespace Dl
open PySem L2
@[simp] theorem pextendT {i : Nat} {f : En → Res (D × En)} {r : En} : sExtendT i f r = atMineS r i fun s0 => match s0.d with
  | .lst _ => sBind (f r) fun p => atMineS p.2 i fun s => match extT s.d p.1 with
    | some z => .nx (p.2.set i (some (s.put z)))
    | none => .bad
  | _ => .bad := rfl
@[simp] theorem pextT {a b : List D} : extT (.lst a) (.tup b) = if a.length + b.length < 100000 then some (.lst (a ++ b)) else none := rfl
@[simp] theorem pextLT {a b : List D} : extD (.lst a) (.tup b) = none := rfl
/-- a loop that gathers, and ends early where p does not hold -/
theorem for_allI {α : Type} {f : α → D} {p : α → Bool} {d : D} {g : D → En → Res En} {b : En → SR} {I : List α → En → Prop} {whole : List α}
    (k : ∀ pre x suf r, whole = pre ++ x :: suf → I pre r → ∃ r1, g (f x) r = .ok r1 ∧ (p x = true → ∃ r2, b r1 = .nx r2 ∧ I (pre ++ [x]) r2) ∧ (p x = false → ∃ r2, b r1 = .rt d r2)) : ∀ (l pre : List α) (r : En), whole = pre ++ l → I pre r →
    (l.all p = true → ∃ r', forD g b (l.map f) r = .nx r' ∧ I whole r') ∧ (l.all p = false → ∃ r', forD g b (l.map f) r = .rt d r')
  | [], pre, r, hw, h => ⟨fun _ => ⟨r, rfl, by rw [hw, List.append_nil]; exact h⟩, fun z => by simp at z⟩
  | x :: l, pre, r, hw, h => by
    obtain ⟨r1, h1, h2, h3⟩ := k pre x l r hw h
    rw [List.map_cons]
    unfold forD
    rw [h1]
    simp only [List.all_cons]
    cases q : p x with
    | true =>
      obtain ⟨r2, e2, i2⟩ := h2 q
      have a1 := for_allI k l (pre ++ [x]) r2 (by rw [hw]; simp) i2
      simp only [sBind, e2, Bool.true_and]
      exact a1
    | false =>
      obtain ⟨r2, e2⟩ := h3 q
      simp only [sBind, e2, Bool.false_and]
      exact ⟨fun z => absurd z (by decide), fun _ => ⟨r2, rfl⟩⟩
end Dl
namespace K82
open PySem L2 Dl
/-! what is told: lists or tuples of names, by texts -/
abbrev Tl : Type := Bool × List Str
def eTl (t : Tl) : D := if t.1 = true then .tup (t.2.map D.str) else .lst (t.2.map D.str)
structure VT (ts : List (Str × Tl)) : Prop where
  nd : (ksT ts).Nodup
  le : ts.length ≤ 20
  nm : ∀ q ∈ ts, ∀ x ∈ q.2.2, Nm x
  ll : ∀ q ∈ ts, q.2.2.length ≤ 100
  ko : ∀ q ∈ ts, PyData.strOk q.1 = true
  ks : ∀ q ∈ ts, (PyData.str q.1).shown.length ≤ 20
def rowOf (rs : List Row) (h : Str) : Row := (h, (getT rs h).getD ([], 0))
def tlOf (ts : List (Str × Tl)) (h : Str) : Tl := (getT ts h).getD (false, [])
theorem eTl_sq (t : Tl) : ∃ sq, Sq sq ∧ eTl t = sq (t.2.map D.str) := by
  unfold eTl
  split
  · exact ⟨D.tup, .inr rfl, rfl⟩
  · exact ⟨D.lst, .inl rfl, rfl⟩
theorem rowOf_mem {rs : List Row} {h : Str} (hh : h ∈ firms rs) : rowOf rs h ∈ rs := by
  obtain ⟨a, ha⟩ := getT_some.mpr (show h ∈ ksT rs from hh)
  unfold rowOf
  rw [ha]
  exact getT_mem ha
theorem tlOf_mem {ts : List (Str × Tl)} {h : Str} (hh : h ∈ ksT ts) : (h, tlOf ts h) ∈ ts ∧ getT ts h = some (tlOf ts h) := by
  obtain ⟨a, ha⟩ := getT_some.mpr hh
  unfold tlOf
  rw [ha]
  exact ⟨getT_mem ha, rfl⟩
/-- this house's part is right -/
def partB (rs : List Row) (ts : List (Str × Tl)) (h : Str) : Bool := filmsB (rowOf rs h) (tlOf ts h).2 && decide (((tlOf ts h).2.length : Int) ≤ (rowOf rs h).2.2)
def every (ts : List (Str × Tl)) (hs : List Str) : List Str := hs.flatMap fun h => (tlOf ts h).2
def takingB (rs : List Row) (ts : List (Str × Tl)) : Bool := decide (ts.length = rs.length) && ((firms rs).all (fun h => decide (h ∈ ksT ts)) && ((firms rs).all (partB rs ts) && decide (every ts (firms rs)).Nodup))
theorem every_len {ts : List (Str × Tl)} (v : VT ts) : ∀ hs : List Str, (every ts hs).length ≤ 100 * hs.length
  | [] => by simp [every]
  | h :: hs => by
    have ih := every_len v hs
    unfold every at ih ⊢
    rw [List.flatMap_cons, List.length_append, List.length_cons]
    have : (tlOf ts h).2.length ≤ 100 := by
      by_cases q : h ∈ ksT ts
      · exact v.ll _ (tlOf_mem q).1
      · unfold tlOf
        rw [getT_none q]
        simp
    omega
end K82

set_option Elab.async false
set_option linter.all false
set_option maxRecDepth 100000
set_option maxHeartbeats 4000000
namespace K82
open PySem L2 Dl
theorem all_perm {α : Type} {l m : List α} {p : α → Bool} (h : l.Perm m) : l.all p = m.all p := by
  rw [Bool.eq_iff_iff, List.all_eq_true, List.all_eq_true]
  exact ⟨fun k x hx => k x (h.mem_iff.mpr hx), fun k x hx => k x (h.mem_iff.mp hx)⟩
section
variable {rs : List Row} {ts : List (Str × Tl)}
theorem by_e (v : VR rs) {x0 x3 x4 : Option Sl} : e_is_taking_by_1 [x0, some (.fz (.lst ((sortS (firms rs)).map D.str))), some (.fz (eKd eTl ts)), none, x4] =
    .ok (.lst ((sortS (firms rs)).map fun h => D.bl (decide (h ∈ ksT ts))), [x0, some (.fz (.lst ((sortS (firms rs)).map D.str))), some (.fz (eKd eTl ts)), none, x4]) := by
  have l1 : (sortS (firms rs)).length ≤ 8 := by rw [(sortS_perm _).length_eq]; unfold firms; rw [List.length_map]; exact v.le
  unfold e_is_taking_by_1
  rw [elc_all (l := sortS (firms rs)) (f := D.str) (z := fun h => D.bl (decide (h ∈ ksT ts))) (r0 := [x0, some (.fz (.lst ((sortS (firms rs)).map D.str))), some (.fz (eKd eTl ts)), none, x4])]
  · simp [restore, wipeE]
  · simp
  · omega
  · intro q hq
    refine ⟨[x0, some (.fz (.lst ((sortS (firms rs)).map D.str))), some (.fz (eKd eTl ts)), some (.fz (.str q)), x4], [x0, some (.fz (.lst ((sortS (firms rs)).map D.str))), some (.fz (eKd eTl ts)), some (.fz (.str q)), x4], ?_, ?_, ?_⟩
    · simp [wipeE]
    · by_cases h : q ∈ ksT ts
      · simp [eKd, get_kd, (tlOf_mem h).2, h]
      · simp [eKd, get_kd, getT_none h, h]
    · simp [wipeE]
theorem by_1 (v : VR rs) : s_is_taking_by_1 [some (.fz (eLots rs)), some (.fz (.lst ((sortS (firms rs)).map D.str))), some (.fz (eKd eTl ts)), none, none] =
    if (decide (ts.length = rs.length) && (firms rs).all fun h => decide (h ∈ ksT ts)) = true then .nx [some (.fz (eLots rs)), some (.fz (.lst ((sortS (firms rs)).map D.str))), some (.fz (eKd eTl ts)), none, none]
    else .rt (.bl false) [some (.fz (eLots rs)), some (.fz (.lst ((sortS (firms rs)).map D.str))), some (.fz (eKd eTl ts)), none, none] := by
  have l1 : (sortS (firms rs)).length = rs.length := by rw [(sortS_perm _).length_eq]; unfold firms; rw [List.length_map]
  have e := by_e (rs := rs) (ts := ts) v (x0 := some (.fz (eLots rs))) (x3 := none) (x4 := none)
  have al := all_bl (l := sortS (firms rs)) (p := fun h => decide (h ∈ ksT ts))
  rw [all_perm (sortS_perm _)] at al
  unfold s_is_taking_by_1
  by_cases q : ts.length = rs.length
  · have q' : (ts.length : Int) = rs.length := by omega
    have q2 : lenK (eKd eTl ts) = some (.int rs.length) := by unfold eKd; rw [plenK, len_kd, q]
    have q1 : lenD (eKd eTl ts) = none := rfl
    have q3 : isiB ["dict"] [] (eKd eTl ts) = some (.bl true) := rfl
    cases k : (firms rs).all fun h => decide (h ∈ ksT ts) with
    | true =>
      rw [k] at al
      simp [q3, q1, q2, l1, e, al, q]
    | false =>
      rw [k] at al
      simp [q3, q1, q2, l1, e, al, q]
  · have q' : ¬ (ts.length : Int) = rs.length := by omega
    have q2 : lenK (eKd eTl ts) = some (.int ts.length) := by unfold eKd; rw [plenK, len_kd]
    have q1 : lenD (eKd eTl ts) = none := rfl
    have q3 : isiB ["dict"] [] (eKd eTl ts) = some (.bl true) := rfl
    simp [q3, q1, q2, l1, q', q]
/-- one house -/
theorem by_b (v : VR rs) (w : VT ts) {h : Str} (hh : h ∈ firms rs) (hk : h ∈ ksT ts) {acc : List Str} {x1 : Option Sl} (la : acc.length ≤ 900) :
    (partB rs ts h = true → s_is_taking_by_3_b [some (.fz (eLots rs)), x1, some (.fz (eKd eTl ts)), some (.fz (.str h)), some (.ow (.lst (acc.map D.str)))] = .nx [some (.fz (eLots rs)), x1, some (.fz (eKd eTl ts)), some (.fz (.str h)), some (.ow (.lst ((acc ++ (tlOf ts h).2).map D.str)))]) ∧
    (partB rs ts h = false → s_is_taking_by_3_b [some (.fz (eLots rs)), x1, some (.fz (eKd eTl ts)), some (.fz (.str h)), some (.ow (.lst (acc.map D.str)))] = .rt (.bl false) [some (.fz (eLots rs)), x1, some (.fz (eKd eTl ts)), some (.fz (.str h)), some (.ow (.lst (acc.map D.str)))]) := by
  obtain ⟨m1, g1⟩ := tlOf_mem hk
  have rm := rowOf_mem hh
  have hx := w.nm _ m1
  have hl : (tlOf ts h).2.length ≤ 100 := w.ll _ m1
  obtain ⟨sq, hs, es⟩ := eTl_sq (tlOf ts h)
  have f1 := is_films_ofF (r := rowOf rs h) hs v rm hx (show (tlOf ts h).2.length ≤ 1000 by omega)
  have w1 := wanted_byF v rm
  have er : (rowOf rs h).1 = h := rfl
  rw [er] at f1 w1
  have gd : getKD (kd eTl ts) (Sum.inr h) = some (sq ((tlOf ts h).2.map D.str)) := by rw [get_kd, g1, ← es]; rfl
  have gd' : dgetD (eKd eTl ts) (.str h) = some (sq ((tlOf ts h).2.map D.str)) := gd
  have lk : (match lenD (sq ((tlOf ts h).2.map D.str)) with
      | some z => some z
      | none => lenK (sq ((tlOf ts h).2.map D.str))) = some (.int (tlOf ts h).2.length) := by
    rcases hs with rfl | rfl <;> simp
  unfold s_is_taking_by_3_b s_is_taking_by_3_1 partB
  constructor
  · intro p
    rw [Bool.and_eq_true, decide_eq_true_eq] at p
    have p2 : ¬ (rowOf rs h).2.2 < ((tlOf ts h).2.length : Int) := by omega
    have p3 : acc.length + (tlOf ts h).2.length < 100000 := by omega
    rw [p.1] at f1
    unfold eLots at f1 w1 ⊢
    rcases hs with rfl | rfl
    · simp [gd', f1, w1, p2, p3]
    · simp [gd', f1, w1, p2, p3]
  · intro p
    rw [Bool.and_eq_false_iff] at p
    unfold eLots at f1 w1 ⊢
    rcases p with p | p
    · rw [p] at f1
      simp [gd', f1]
    · have p2 : (rowOf rs h).2.2 < ((tlOf ts h).2.length : Int) := by
        have := of_decide_eq_false p
        omega
      cases q : filmsB (rowOf rs h) (tlOf ts h).2 with
      | false =>
        rw [q] at f1
        simp [gd', f1]
      | true =>
        rw [q] at f1
        rcases hs with rfl | rfl
        · simp [gd', f1, w1, p2]
        · simp [gd', f1, w1, p2]
theorem is_taking_byF (v : VR rs) (w : VT ts) : d_is_taking_by [eLots rs, .lst ((sortS (firms rs)).map D.str), eKd eTl ts] = .ok (.bl (takingB rs ts)) := by
  have e1 := by_1 (ts := ts) v
  have lf : (sortS (firms rs)).length ≤ 8 := by rw [(sortS_perm _).length_eq]; unfold firms; rw [List.length_map]; exact v.le
  unfold d_is_taking_by runF s_is_taking_by takingB
  by_cases q : (decide (ts.length = rs.length) && (firms rs).all fun h => decide (h ∈ ksT ts)) = true
  · rw [if_pos q] at e1
    rw [Bool.and_eq_true] at q
    have hin : ∀ h ∈ firms rs, h ∈ ksT ts := fun h hh => by
      have := List.all_eq_true.mp q.2 h hh
      exact of_decide_eq_true this
    obtain ⟨st1, st2⟩ := for_allI (f := D.str) (p := partB rs ts) (d := .bl false) (g := gNm 3) (b := s_is_taking_by_3_b) (whole := sortS (firms rs))
      (I := fun pre r => ∃ y3, r = [some (.fz (eLots rs)), some (.fz (.lst ((sortS (firms rs)).map D.str))), some (.fz (eKd eTl ts)), y3, some (.ow (.lst ((every ts pre).map D.str)))]) (by
        rintro pre x suf r hw ⟨y3, rfl⟩
        have hx : x ∈ firms rs := sortS_mem.mp (by rw [hw]; simp)
        have hp : pre.length ≤ 8 := by
          have := congrArg List.length hw
          simp at this
          omega
        have le := every_len w pre
        obtain ⟨b1, b2⟩ := by_b v w hx (hin x hx) (acc := every ts pre) (x1 := some (.fz (.lst ((sortS (firms rs)).map D.str)))) (by omega)
        have ev : every ts (pre ++ [x]) = every ts pre ++ (tlOf ts x).2 := by unfold every; simp
        exact ⟨_, rfl, fun p => ⟨_, b1 p, some (.fz (.str x)), by rw [ev]⟩, fun p => ⟨_, b2 p⟩⟩)
      (sortS (firms rs)) [] [some (.fz (eLots rs)), some (.fz (.lst ((sortS (firms rs)).map D.str))), some (.fz (eKd eTl ts)), none, some (.ow (.lst []))] rfl ⟨none, rfl⟩
    rw [all_perm (sortS_perm _)] at st1 st2
    have pe : (every ts (sortS (firms rs))).Perm (every ts (firms rs)) := (sortS_perm _).flatMap_right _
    cases k : (firms rs).all (partB rs ts) with
    | true =>
      obtain ⟨r', e3, y3, rfl⟩ := st1 k
      have le := every_len w (sortS (firms rs))
      have ls := lenSet_str (xs := every ts (sortS (firms rs))) (by omega)
      have c1 : ((cntS (every ts (sortS (firms rs))) : Int) = (every ts (sortS (firms rs))).length) ↔ (every ts (firms rs)).Nodup := by
        rw [← pe.nodup_iff, ← cntS_iff]
        omega
      simp only [Bool.true_and, q.1, q.2]
      simp [startE, e1, s_is_taking_by_3, e3, ls]
      rw [← c1]
    | false =>
      obtain ⟨r', e3⟩ := st2 k
      simp [startE, e1, s_is_taking_by_3, e3]
  · rw [if_neg q] at e1
    have q' : (decide (ts.length = rs.length) && ((firms rs).all (fun h => decide (h ∈ ksT ts)) && ((firms rs).all (partB rs ts) && decide (every ts (firms rs)).Nodup))) = false := by
      rw [← Bool.and_assoc]
      simp only [Bool.not_eq_true] at q
      rw [q, Bool.false_and]
    rw [q']
    simp [startE, e1]
end
end K82

set_option Elab.async false
set_option linter.all false
set_option maxRecDepth 100000
set_option maxHeartbeats 4000000
namespace K82
open PySem L2 Dl
section
variable {rs : List Row} {ts : List (Str × Tl)}
theorem is_takingF (v : VR rs) (w : VT ts) : d_is_taking [eLots rs, eKd eTl ts] = .ok (.bl (takingB rs ts)) := by
  have e1 := all_housesF (rs := rs)
  have e2 := is_taking_byF v w
  unfold d_is_taking runF s_is_taking
  unfold eLots at e1 e2 ⊢
  simp [startE, e1, e2]
def fullB (rs : List Row) (ts : List (Str × Tl)) : Bool := (firms rs).all fun h => decide (((tlOf ts h).2.length : Int) = (rowOf rs h).2.2)
theorem takingB_in (h : takingB rs ts = true) : ∀ x ∈ firms rs, x ∈ ksT ts := fun x hx => by
  unfold takingB at h
  rw [Bool.and_eq_true, Bool.and_eq_true] at h
  exact of_decide_eq_true (List.all_eq_true.mp h.2.1 x hx)
theorem choice_e (v : VR rs) (hin : ∀ x ∈ firms rs, x ∈ ksT ts) : e_is_choice_1 [some (.fz (eLots rs)), some (.fz (eKd eTl ts)), none] =
    .ok (.lst ((sortS (firms rs)).map fun h => D.bl (decide (((tlOf ts h).2.length : Int) = (rowOf rs h).2.2))), [some (.fz (eLots rs)), some (.fz (eKd eTl ts)), none]) := by
  have lf : (sortS (firms rs)).length ≤ 8 := by rw [(sortS_perm _).length_eq]; unfold firms; rw [List.length_map]; exact v.le
  unfold e_is_choice_1
  rw [elc_all (l := sortS (firms rs)) (f := D.str) (z := fun h => D.bl (decide (((tlOf ts h).2.length : Int) = (rowOf rs h).2.2))) (r0 := [some (.fz (eLots rs)), some (.fz (eKd eTl ts)), none])]
  · simp [restore, wipeE]
  · unfold eLots
    simp [eKd, keys_kd, ksT_lots]
  · omega
  · intro q hq
    have hq' := sortS_mem.mp hq
    have w1 := wanted_byF v (rowOf_mem hq')
    have er : (rowOf rs q).1 = q := rfl
    rw [er] at w1
    have g1 := (tlOf_mem (hin q hq')).2
    obtain ⟨sq, hs, es⟩ := eTl_sq (tlOf ts q)
    have gd : dgetD (eKd eTl ts) (.str q) = some (sq ((tlOf ts q).2.map D.str)) := by
      show getKD (kd eTl ts) (Sum.inr q) = _
      rw [get_kd, g1, ← es]; rfl
    refine ⟨[some (.fz (eLots rs)), some (.fz (eKd eTl ts)), some (.fz (.str q))], [some (.fz (eLots rs)), some (.fz (eKd eTl ts)), some (.fz (.str q))], ?_, ?_, ?_⟩
    · simp [wipeE]
    · unfold eLots at w1 ⊢
      rcases hs with rfl | rfl <;> simp [gd, w1]
    · simp [wipeE]
theorem is_choiceF (v : VR rs) (w : VT ts) : d_is_choice [eLots rs, eKd eTl ts] = .ok (.bl (takingB rs ts && fullB rs ts)) := by
  have e1 := is_takingF v w
  unfold d_is_choice runF s_is_choice
  cases k : takingB rs ts with
  | false =>
    rw [k] at e1
    simp [startE, e1]
  | true =>
    rw [k] at e1
    have e2 := choice_e v (takingB_in k)
    have al := all_bl (l := sortS (firms rs)) (p := fun h => decide (((tlOf ts h).2.length : Int) = (rowOf rs h).2.2))
    rw [all_perm (sortS_perm _)] at al
    simp [startE, e1, e2, al, fullB]
end
end K82

set_option Elab.async false
set_option linter.all false
set_option maxRecDepth 100000
set_option maxHeartbeats 4000000
namespace Dl
open PySem L2
theorem sub_all {α : Type} [DecidableEq α] {l m : List α} (hl : l.Nodup) (hm : m.Nodup) (e : l.length = m.length) (h : ∀ x ∈ l, x ∈ m) : ∀ x ∈ m, x ∈ l := by
  have h1 : (m.filter fun x => decide (x ∈ l)).length = l.length := len_of_same (hm.filter _) hl fun x => by
    rw [List.mem_filter, decide_eq_true_eq]
    exact ⟨fun z => z.2, fun z => ⟨h x z, z⟩⟩
  have h2 : (m.filter fun x => decide (x ∈ l)).length = m.length := h1.trans e
  intro x hx
  have := (List.length_filter_eq_length_iff).mp h2 x hx
  exact of_decide_eq_true this
theorem perm_of_sub {α : Type} [DecidableEq α] {l m : List α} (hl : l.Nodup) (hm : m.Nodup) (e : l.length = m.length) (h : ∀ x ∈ l, x ∈ m) : l.Perm m :=
  List.perm_iff_count.mpr fun a => by
    rw [hl.count, hm.count]
    have : a ∈ l ↔ a ∈ m := ⟨h a, sub_all hl hm e h a⟩
    simp [this]
theorem count_str {xs : List Str} {x : Str} : cntD (.lst (xs.map D.str)) (.str x) = some (.int (xs.count x : Nat)) := by
  have e1 : isDataL (xs.map D.str) = true := by rw [isDataL_all, List.all_map]; exact List.all_eq_true.mpr fun _ _ => rfl
  have e2 : (toPyL (xs.map D.str)).countP (fun y => PyData.eqv y (toPy (.str x))) = xs.count x := by
    rw [tpL, List.map_map, List.countP_map, List.count]
    refine List.countP_congr fun y _ => ?_
    have := eqv_iff (.str y) (.str x) rfl rfl
    constructor
    · intro z
      have := this.mp z
      cases this
      simp
    · intro z
      have z' : y = x := by simpa using z
      exact this.mpr (by rw [z'])
  show (if isDataL (xs.map D.str) = true ∧ isData (.str x) = true ∧ (toPy (.str x)).depth ≤ 20 then some (D.int ((toPyL (xs.map D.str)).countP fun y => PyData.eqv y (toPy (.str x)) : Nat)) else none) = _
  rw [if_pos ⟨e1, rfl, Nat.zero_le _⟩, e2]
end Dl
namespace K82
open PySem L2 Dl
section
variable {rs : List Row} {ts : List (Str × Tl)}
theorem keys_iff (v : VR rs) (w : VT ts) : (decide (ts.length = rs.length) && (firms rs).all fun h => decide (h ∈ ksT ts)) = decide (sortS (ksT ts) = sortS (firms rs)) := by
  have l1 : (firms rs).length = rs.length := by unfold firms; rw [List.length_map]
  have l2 : (ksT ts).length = ts.length := by unfold ksT; rw [List.length_map]
  rw [Bool.eq_iff_iff, Bool.and_eq_true, decide_eq_true_eq, decide_eq_true_eq]
  constructor
  · rintro ⟨h1, h2⟩
    refine (sortS_eq (perm_of_sub v.nd w.nd (by omega) fun x hx => ?_)).symm
    exact of_decide_eq_true (List.all_eq_true.mp h2 x hx)
  · intro h
    have p : (ksT ts).Perm (firms rs) := ((sortS_perm _).symm.trans (by rw [h])).trans (sortS_perm _)
    refine ⟨by have := p.length_eq; omega, List.all_eq_true.mpr fun x hx => decide_eq_true (p.mem_iff.mpr hx)⟩
/-- by the law: this row's part is right -/
def rowB (ts : List (Str × Tl)) (r : Row) : Bool := decide ((tlOf ts r.1).2 = sortS (tlOf ts r.1).2) && (decide (((tlOf ts r.1).2.length : Int) ≤ r.2.2) && (tlOf ts r.1).2.all fun x => decide (x ∈ r.2.1))
theorem rowOf_self (v : VR rs) {r : Row} (h : r ∈ rs) : rowOf rs r.1 = r := by
  have g : getT rs r.1 = some r.2 := getT_of (l := rs) (x := r.1) (a := r.2) h v.nd
  unfold rowOf
  rw [g]
  rfl
theorem nodup_parts {ts : List (Str × Tl)} : ∀ {hs : List Str}, (every ts hs).Nodup → ∀ h ∈ hs, (tlOf ts h).2.Nodup
  | [], _, _, hh => by cases hh
  | a :: hs, n, h, hh => by
    unfold every at n
    rw [List.flatMap_cons, List.nodup_append] at n
    rcases List.mem_cons.mp hh with e | e
    · rw [e]; exact n.1
    · exact nodup_parts (hs := hs) n.2.1 h e
theorem takingB_law (v : VR rs) (w : VT ts) : takingB rs ts = (decide (sortS (ksT ts) = sortS (firms rs)) && (rs.all (rowB ts) && decide (every ts (firms rs)).Nodup)) := by
  unfold takingB
  rw [← keys_iff v w, Bool.and_assoc]
  congr 2
  by_cases n : (every ts (firms rs)).Nodup
  · rw [decide_eq_true n, Bool.and_true, Bool.and_true, Bool.eq_iff_iff, List.all_eq_true, List.all_eq_true]
    have np := nodup_parts n
    constructor
    · intro k r hr
      have hf : r.1 ∈ firms rs := List.mem_map.mpr ⟨r, hr, rfl⟩
      have := k r.1 hf
      unfold partB filmsB at this
      rw [rowOf_self v hr] at this
      unfold rowB
      simp only [Bool.and_eq_true] at this ⊢
      exact ⟨this.1.2.1, this.2, this.1.2.2⟩
    · intro k h hf
      obtain ⟨r, hr, rfl⟩ := List.mem_map.mp hf
      have := k r hr
      unfold rowB at this
      unfold partB filmsB
      rw [rowOf_self v hr]
      simp only [Bool.and_eq_true] at this ⊢
      exact ⟨⟨decide_eq_true (np _ hf), this.1, this.2.2⟩, this.2.1⟩
  · rw [decide_eq_false n, Bool.and_false, Bool.and_false]
end
end K82

set_option Elab.async false
set_option linter.all false
set_option maxRecDepth 100000
set_option maxHeartbeats 4000000
namespace K82
open PySem L2 Dl
section
variable {rs : List Row} {ts : List (Str × Tl)}
theorem firms_e (hl : rs.length ≤ 8) {x1 x3 x4 x5 x6 x7 x8 : Option Sl} : e_lis_taking_1 [some (.fz (eRows rs)), x1, none, x3, x4, x5, x6, x7, x8] = .ok (.lst ((firms rs).map D.str), [some (.fz (eRows rs)), x1, none, x3, x4, x5, x6, x7, x8]) := by
  unfold e_lis_taking_1
  rw [elc_all (l := rs) (f := eRow) (z := fun r => D.str r.1) (r0 := [some (.fz (eRows rs)), x1, none, x3, x4, x5, x6, x7, x8])]
  · simp [restore, wipeE, firms]
  · simp [eRows]
  · omega
  · intro q hq
    refine ⟨[some (.fz (eRows rs)), x1, some (.fz (eRow q)), x3, x4, x5, x6, x7, x8], [some (.fz (eRows rs)), x1, some (.fz (eRow q)), x3, x4, x5, x6, x7, x8], ?_, ?_, ?_⟩
    · simp [wipeE]
    · simp [eRow]
    · simp [wipeE]
theorem firms_ok (v : VR rs) : ∀ x ∈ firms rs, PyData.strOk x = true := fun x hx => by
  obtain ⟨r, hr, rfl⟩ := List.mem_map.mp hx
  exact (v.nm r hr).ok
theorem ks_ok (w : VT ts) : ∀ x ∈ ksT ts, PyData.strOk x = true := fun x hx => by
  obtain ⟨r, hr, rfl⟩ := List.mem_map.mp hx
  exact w.ko r hr
theorem lt_1 (v : VR rs) (w : VT ts) : s_lis_taking_1 [some (.fz (eRows rs)), some (.fz (eKd eTl ts)), none, none, none, none, none, none, none] =
    if sortS (ksT ts) = sortS (firms rs) then .nx [some (.fz (eRows rs)), some (.fz (eKd eTl ts)), none, none, none, none, none, none, none]
    else .rt (.bl false) [some (.fz (eRows rs)), some (.fz (eKd eTl ts)), none, none, none, none, none, none, none] := by
  have e := firms_e (rs := rs) v.le (x1 := some (.fz (eKd eTl ts))) (x3 := none) (x4 := none) (x5 := none) (x6 := none) (x7 := none) (x8 := none)
  have l1 : (firms rs).length ≤ 8 := by unfold firms; rw [List.length_map]; exact v.le
  have s1 := sorted_kd (f := eTl) (l := ts) (by have := w.le; omega)
  have s2 := sortM (firms_ok v) (by omega)
  have d1 : sortedD (eKd eTl ts) = none := rfl
  have d2 : sortedT (eKd eTl ts) = none := rfl
  have ne := (neM (sortS_ok (ks_ok w)) (sortS_ok (firms_ok v))).1
  unfold s_lis_taking_1
  by_cases q : sortS (ksT ts) = sortS (firms rs)
  · rw [if_pos q]
    rw [decide_eq_true q] at ne
    simp [d1, d2, s1, e, s2, ne]
  · rw [if_neg q]
    rw [decide_eq_false q] at ne
    simp [d1, d2, s1, e, s2, ne]
theorem in_e {xs fs : List Str} (hx : ∀ x ∈ xs, Nm x) (hf : ∀ x ∈ fs, Nm x) (hl : xs.length ≤ 1000) {x0 x1 x2 x3 x4 x6 : Option Sl} : e_lis_taking_2 [x0, x1, x2, x3, x4, some (.fz (.lst (fs.map D.str))), x6, some (.fz (.lst (xs.map D.str))), none] =
    .ok (.lst (xs.map fun x => D.bl (decide (x ∈ fs))), [x0, x1, x2, x3, x4, some (.fz (.lst (fs.map D.str))), x6, some (.fz (.lst (xs.map D.str))), none]) := by
  unfold e_lis_taking_2
  rw [elc_all (l := xs) (f := D.str) (z := fun x => D.bl (decide (x ∈ fs))) (r0 := [x0, x1, x2, x3, x4, some (.fz (.lst (fs.map D.str))), x6, some (.fz (.lst (xs.map D.str))), none])]
  · simp [restore, wipeE]
  · simp
  · omega
  · intro q hq
    have i1 := (inM (x := q) (a := fs) (hx q hq).ok (strsOk hf)).1
    refine ⟨[x0, x1, x2, x3, x4, some (.fz (.lst (fs.map D.str))), x6, some (.fz (.lst (xs.map D.str))), some (.fz (.str q))], [x0, x1, x2, x3, x4, some (.fz (.lst (fs.map D.str))), x6, some (.fz (.lst (xs.map D.str))), some (.fz (.str q))], ?_, ?_, ?_⟩
    · simp [wipeE]
    · simp [i1]
    · simp [wipeE]
theorem lt_b (v : VR rs) (w : VT ts) {r : Row} (hr : r ∈ rs) (hk : r.1 ∈ ksT ts) {acc : List Str} {x0 x2 y7 : Option Sl} (la : acc.length ≤ 900) :
    (rowB ts r = true → s_lis_taking_3_b [x0, some (.fz (eKd eTl ts)), x2, some (.ow (.lst (acc.map D.str))), some (.fz (.str r.1)), some (.fz (.lst (r.2.1.map D.str))), some (.fz (.int r.2.2)), y7, none] =
      .nx [x0, some (.fz (eKd eTl ts)), x2, some (.ow (.lst ((acc ++ (tlOf ts r.1).2).map D.str))), some (.fz (.str r.1)), some (.fz (.lst (r.2.1.map D.str))), some (.fz (.int r.2.2)), some (.fz (.lst ((tlOf ts r.1).2.map D.str))), none]) ∧
    (rowB ts r = false → s_lis_taking_3_b [x0, some (.fz (eKd eTl ts)), x2, some (.ow (.lst (acc.map D.str))), some (.fz (.str r.1)), some (.fz (.lst (r.2.1.map D.str))), some (.fz (.int r.2.2)), y7, none] =
      .rt (.bl false) [x0, some (.fz (eKd eTl ts)), x2, some (.ow (.lst (acc.map D.str))), some (.fz (.str r.1)), some (.fz (.lst (r.2.1.map D.str))), some (.fz (.int r.2.2)), some (.fz (.lst ((tlOf ts r.1).2.map D.str))), none]) := by
  obtain ⟨m1, g1⟩ := tlOf_mem hk
  have hx := w.nm _ m1
  have hl : (tlOf ts r.1).2.length ≤ 100 := w.ll _ m1
  obtain ⟨sq, hs, es⟩ := eTl_sq (tlOf ts r.1)
  have gd : dgetD (eKd eTl ts) (.str r.1) = some (sq ((tlOf ts r.1).2.map D.str)) := by
    show getKD (kd eTl ts) (Sum.inr r.1) = _
    rw [get_kd, g1, ← es]; rfl
  have ld : listD (sq ((tlOf ts r.1).2.map D.str)) = some (.lst ((tlOf ts r.1).2.map D.str)) := by rcases hs with rfl | rfl <;> rfl
  have ok := strsOk hx
  have s1 := sortM ok (by show (tlOf ts r.1).2.length ≤ 1000; omega)
  have ne := (neM ok (sortS_ok ok)).1
  have ie := in_e (x0 := x0) (x1 := some (.fz (eKd eTl ts))) (x2 := x2) (x3 := some (.ow (.lst (acc.map D.str)))) (x4 := some (.fz (.str r.1))) (x6 := some (.fz (.int r.2.2))) hx (v.fn r hr) (by show (tlOf ts r.1).2.length ≤ 1000; omega)
  have al := all_bl (l := (tlOf ts r.1).2) (p := fun x => decide (x ∈ r.2.1))
  have p3 : acc.length + (tlOf ts r.1).2.length < 100000 := by omega
  unfold s_lis_taking_3_b s_lis_taking_3_2 rowB
  by_cases q1 : (tlOf ts r.1).2 = sortS (tlOf ts r.1).2
  · have ne' : neD (.lst ((tlOf ts r.1).2.map D.str)) (.lst ((sortS (tlOf ts r.1).2).map D.str)) = some (.bl false) := by rw [ne, decide_eq_true q1]; rfl
    by_cases q2 : ((tlOf ts r.1).2.length : Int) ≤ r.2.2
    · have q2' : ¬ r.2.2 < ((tlOf ts r.1).2.length : Int) := by omega
      cases q3 : (tlOf ts r.1).2.all fun x => decide (x ∈ r.2.1) with
      | true =>
        rw [q3] at al
        refine ⟨fun _ => ?_, fun z => by simp [decide_eq_true q1, q2] at z⟩
        simp [gd, ld, s1, ne', q2', ie, al, p3]
      | false =>
        rw [q3] at al
        refine ⟨fun z => by simp at z, fun _ => ?_⟩
        simp [gd, ld, s1, ne', q2', ie, al]
    · have q2' : r.2.2 < ((tlOf ts r.1).2.length : Int) := by omega
      refine ⟨fun z => by simp [q2] at z, fun _ => ?_⟩
      simp [gd, ld, s1, ne', q2']
  · have ne' : neD (.lst ((tlOf ts r.1).2.map D.str)) (.lst ((sortS (tlOf ts r.1).2).map D.str)) = some (.bl true) := by rw [ne, decide_eq_false q1]; rfl
    refine ⟨fun z => by simp [decide_eq_false q1] at z, fun _ => ?_⟩
    simp [gd, ld, s1, ne']
end
end K82

set_option Elab.async false
set_option linter.all false
set_option maxRecDepth 100000
set_option maxHeartbeats 4000000
namespace K82
open PySem L2 Dl
theorem all_count {xs : List Str} : (xs.all fun x => decide (((xs.count x : Nat) : Int) = 1)) = decide xs.Nodup := by
  rw [Bool.eq_iff_iff, List.all_eq_true, decide_eq_true_eq]
  constructor
  · intro h
    refine List.nodup_iff_count.mpr fun a => ?_
    by_cases q : a ∈ xs
    · have := of_decide_eq_true (h a q)
      omega
    · rw [List.count_eq_zero_of_not_mem q]
      omega
  · intro h x hx
    rw [h.count]
    simp [hx]
section
variable {rs : List Row} {ts : List (Str × Tl)}
theorem cnt_e {xs : List Str} (hl : xs.length ≤ 1000) {x0 x1 x2 x4 x5 x6 x7 : Option Sl} : e_lis_taking_3 [x0, x1, x2, some (.ow (.lst (xs.map D.str))), x4, x5, x6, x7, none] =
    .ok (.lst (xs.map fun x => D.bl (decide (((xs.count x : Nat) : Int) = 1))), [x0, x1, x2, some (.fz (.lst (xs.map D.str))), x4, x5, x6, x7, none]) := by
  unfold e_lis_taking_3
  rw [elc_all (l := xs) (f := D.str) (z := fun x => D.bl (decide (((xs.count x : Nat) : Int) = 1))) (r0 := [x0, x1, x2, some (.fz (.lst (xs.map D.str))), x4, x5, x6, x7, none])]
  · simp [restore, wipeE]
  · simp
  · omega
  · intro q hq
    have c := count_str (xs := xs) (x := q)
    refine ⟨[x0, x1, x2, some (.fz (.lst (xs.map D.str))), x4, x5, x6, x7, some (.fz (.str q))], [x0, x1, x2, some (.fz (.lst (xs.map D.str))), x4, x5, x6, x7, some (.fz (.str q))], ?_, ?_, ?_⟩
    · simp [wipeE]
    · simp [c]
    · simp [wipeE]
theorem lis_takingF (v : VR rs) (w : VT ts) : d_lis_taking [eRows rs, eKd eTl ts] = .ok (.bl (takingB rs ts)) := by
  have e1 := lt_1 v w
  rw [takingB_law v w]
  unfold d_lis_taking runF s_lis_taking
  by_cases q : sortS (ksT ts) = sortS (firms rs)
  · rw [if_pos q] at e1
    have hin : ∀ h ∈ firms rs, h ∈ ksT ts := fun h hh => by
      have p : (ksT ts).Perm (firms rs) := ((sortS_perm _).symm.trans (by rw [q])).trans (sortS_perm _)
      exact p.mem_iff.mpr hh
    obtain ⟨st1, st2⟩ := for_allI (f := eRow) (p := rowB ts) (d := .bl false) (g := gTp 3 (gsCons (gNm 4) (gsCons (gNm 5) (gsCons (gNm 6) gsNil)))) (b := s_lis_taking_3_b) (whole := rs)
      (I := fun pre r => ∃ y4 y5 y6 y7, r = [some (.fz (eRows rs)), some (.fz (eKd eTl ts)), none, some (.ow (.lst ((every ts (firms pre)).map D.str))), y4, y5, y6, y7, none]) (by
        rintro pre x suf r hw ⟨y4, y5, y6, y7, rfl⟩
        have hx : x ∈ rs := by rw [hw]; simp
        have hp : (firms pre).length ≤ 8 := by
          have := congrArg List.length hw
          have l := v.le
          unfold firms
          rw [List.length_map]
          simp at this
          omega
        have le := every_len w (firms pre)
        obtain ⟨b1, b2⟩ := lt_b v w hx (hin x.1 (List.mem_map.mpr ⟨x, hx, rfl⟩)) (acc := every ts (firms pre)) (x0 := some (.fz (eRows rs))) (x2 := none) (y7 := y7) (by omega)
        have ev : every ts (firms (pre ++ [x])) = every ts (firms pre) ++ (tlOf ts x.1).2 := by unfold every firms; simp
        refine ⟨[some (.fz (eRows rs)), some (.fz (eKd eTl ts)), none, some (.ow (.lst ((every ts (firms pre)).map D.str))), some (.fz (.str x.1)), some (.fz (.lst (x.2.1.map D.str))), some (.fz (.int x.2.2)), y7, none], by simp [eRow], fun p => ⟨_, b1 p, some (.fz (.str x.1)), some (.fz (.lst (x.2.1.map D.str))), some (.fz (.int x.2.2)), _, by rw [ev]⟩, fun p => ⟨_, b2 p⟩⟩)
      rs [] [some (.fz (eRows rs)), some (.fz (eKd eTl ts)), none, some (.ow (.lst [])), none, none, none, none, none] rfl ⟨none, none, none, none, rfl⟩
    rw [decide_eq_true q, Bool.true_and]
    cases k : rs.all (rowB ts) with
    | true =>
      obtain ⟨r', e3, y4, y5, y6, y7, rfl⟩ := st1 k
      have lf : (firms rs).length ≤ 8 := by unfold firms; rw [List.length_map]; exact v.le
      have le := every_len w (firms rs)
      have ce := cnt_e (xs := every ts (firms rs)) (by omega) (x0 := some (.fz (eRows rs))) (x1 := some (.fz (eKd eTl ts))) (x2 := none) (x4 := y4) (x5 := y5) (x6 := y6) (x7 := y7)
      have al := all_bl (l := every ts (firms rs)) (p := fun x => decide ((((every ts (firms rs)).count x : Nat) : Int) = 1))
      rw [all_count] at al
      unfold eRows at e1 e3 ce ⊢
      simp [startE, e1, s_lis_taking_3, e3, ce, al]
    | false =>
      obtain ⟨r', e3⟩ := st2 k
      unfold eRows at e1 e3 ⊢
      simp [startE, e1, s_lis_taking_3, e3]
  · rw [if_neg q] at e1
    rw [decide_eq_false q, Bool.false_and]
    simp [startE, e1]
end
end K82

set_option Elab.async false
set_option linter.all false
set_option maxRecDepth 100000
set_option maxHeartbeats 4000000
namespace Dl
open PySem L2
theorem join_le {c : Nat} : ∀ ts : List Str, (∀ t ∈ ts, t.length ≤ c) → (Str.join ", " ts).length ≤ ts.length * (c + 2)
  | [], _ => Nat.zero_le _
  | [x], h => by
    show x.length ≤ _
    have := h x (by simp)
    simp
    omega
  | x :: y :: r, h => by
    show (x ++ ", " ++ Str.join ", " (y :: r)).length ≤ _
    rw [strLen_append, strLen_append]
    have h1 := h x (by simp)
    have h2 := join_le (y :: r) fun t ht => h t (List.mem_cons_of_mem _ ht)
    have h3 : (", " : Str).length = 2 := by decide +kernel
    have e : (x :: y :: r).length * (c + 2) = (y :: r).length * (c + 2) + (c + 2) := by
      rw [List.length_cons, Nat.succ_mul]
    rw [e]
    omega
theorem textFrom_le {c : Nat} : ∀ (ts : List Str) (k : Nat) (acc : Str), (∀ t ∈ ts, t.length ≤ c) → (textFrom k acc ts).length ≤ acc.length + ts.length * (c + 2)
  | [], k, acc, _ => by
    show acc.length ≤ _
    omega
  | t :: r, k, acc, h => by
    have h1 := h t (by simp)
    have h3 : (", " : Str).length = 2 := by decide +kernel
    have e : (t :: r).length * (c + 2) = r.length * (c + 2) + (c + 2) := by
      rw [List.length_cons, Nat.succ_mul]
    have hr : ∀ x ∈ r, x.length ≤ c := fun x hx => h x (List.mem_cons_of_mem _ hx)
    unfold textFrom
    by_cases q : k > 0
    · have h2 := textFrom_le r (k + 1) (acc ++ ", " ++ t) hr
      rw [strLen_append, strLen_append] at h2
      simp only [q, if_true] at *
      omega
    · have h2 := textFrom_le r (k + 1) (acc ++ Str.ofString "" ++ t) hr
      rw [strLen_append, strLen_append] at h2
      have h4 : (Str.ofString "").length = 0 := by decide +kernel
      simp only [q, if_false] at *
      omega
theorem shown_list {c n : Nat} {ts : List Str} (h : ∀ t ∈ ts, t.length ≤ c) (hl : ts.length ≤ n) : (listText ts).length ≤ n * (c + 2) + 2 := by
  have h1 := textFrom_le ts 0 "[" h
  have e : (listText ts).length = (textFrom 0 "[" ts).length + 1 := by
    show (textFrom 0 "[" ts ++ "]").length = _
    rw [strLen_append]; rfl
  have e2 : ("[" : Str).length = 1 := by decide +kernel
  have : ts.length * (c + 2) ≤ n * (c + 2) := Nat.mul_le_mul_right _ hl
  omega
theorem shown_tuple {c n : Nat} {ts : List Str} (h : ∀ t ∈ ts, t.length ≤ c) (hl : ts.length ≤ n) : (tupleText ts).length ≤ n * (c + 2) + 3 := by
  have h1 := join_le ts h
  have e2 : ("(" : Str).length = 1 := by decide +kernel
  have : ts.length * (c + 2) ≤ n * (c + 2) := Nat.mul_le_mul_right _ hl
  have e3 : (Str.ofString (if ts.length == 1 then ",)" else ")")).length ≤ 2 := by split <;> decide +kernel
  unfold tupleText
  rw [strLen_append, strLen_append]
  omega
theorem shown_dict {c n : Nat} {ts : List Str} (h : ∀ t ∈ ts, t.length ≤ c) (hl : ts.length ≤ n) : (dictText ts).length ≤ n * (c + 2) + 2 := by
  have h1 := join_le ts h
  have e2 : ("{" : Str).length = 1 := by decide +kernel
  have e3 : ("}" : Str).length = 1 := by decide +kernel
  have : ts.length * (c + 2) ≤ n * (c + 2) := Nat.mul_le_mul_right _ hl
  unfold dictText
  rw [strLen_append, strLen_append]
  omega
end Dl

set_option Elab.async false
set_option linter.all false
set_option maxRecDepth 100000
set_option maxHeartbeats 4000000
namespace K82
open PySem L2 Dl
theorem shownAll_strs : ∀ xs : List Str, PyData.shownAll (toPyL (xs.map D.str)) = xs.map fun x => (PyData.str x).shown
  | [] => rfl
  | x :: xs => by
    rw [List.map_cons, toPyL, PyData.shownAll, shownAll_strs xs]
    rfl
theorem showAll_strs : ∀ xs : List Str, PyData.showableAll (toPyL (xs.map D.str)) = true
  | [] => rfl
  | x :: xs => by
    rw [List.map_cons, toPyL, PyData.showableAll, showAll_strs xs]
    rfl
theorem depth_strs : ∀ xs : List Str, PyData.depthAll (toPyL (xs.map D.str)) = 0
  | [] => rfl
  | x :: xs => by
    rw [List.map_cons, toPyL, PyData.depthAll, depth_strs xs]
    rfl
theorem data_strs (xs : List Str) : isDataL (xs.map D.str) = true := by rw [isDataL_all, List.all_map]; exact List.all_eq_true.mpr fun _ _ => rfl
/-- what is shown of one part -/
theorem tl_shown {t : Tl} (h : ∀ x ∈ t.2, Nm x) (hl : t.2.length ≤ 100) : isData (eTl t) = true ∧ (toPy (eTl t)).showable = true ∧ (toPy (eTl t)).depth ≤ 1 ∧ (toPy (eTl t)).shown.length ≤ 2210 := by
  have hs : ∀ y ∈ t.2.map (fun x => (PyData.str x).shown), y.length ≤ 20 := fun y hy => by
    obtain ⟨x, hx, rfl⟩ := List.mem_map.mp hy
    exact (h x hx).sh
  unfold eTl
  split
  · refine ⟨?_, ?_, ?_, ?_⟩
    · show isDataL _ = true
      exact data_strs _
    · rw [toPy, PyData.showable]; exact showAll_strs _
    · rw [toPy, PyData.depth, depth_strs]; exact Nat.le_refl _
    · rw [toPy, PyData.shown, shownAll_strs]
      have := shown_tuple (n := 100) hs (by rw [List.length_map]; exact hl)
      omega
  · refine ⟨?_, ?_, ?_, ?_⟩
    · show isDataL _ = true
      exact data_strs _
    · rw [toPy, PyData.showable]; exact showAll_strs _
    · rw [toPy, PyData.depth, depth_strs]; exact Nat.le_refl _
    · rw [toPy, PyData.shown, shownAll_strs]
      have := shown_list (n := 100) hs (by rw [List.length_map]; exact hl)
      omega
theorem kd_shown : ∀ (ts : List (Str × Tl)), (∀ q ∈ ts, ∀ x ∈ q.2.2, Nm x) → (∀ q ∈ ts, q.2.2.length ≤ 100) → (∀ q ∈ ts, (PyData.str q.1).shown.length ≤ 20) →
    isDataL ((kd eTl ts).map (·.2)) = true ∧ PyData.showableKv ((kd eTl ts).map fun kv => (pkD kv.1, toPy kv.2)) = true ∧ PyData.depthKv ((kd eTl ts).map fun kv => (pkD kv.1, toPy kv.2)) ≤ 1 ∧ ∀ y ∈ PyData.shownKv ((kd eTl ts).map fun kv => (pkD kv.1, toPy kv.2)), y.length ≤ 2240
  | [], _, _, _ => ⟨rfl, rfl, Nat.zero_le _, fun y hy => by cases hy⟩
  | q :: ts, h1, h2, h3 => by
    obtain ⟨a1, a2, a3, a4⟩ := kd_shown ts (fun p hp => h1 p (List.mem_cons_of_mem _ hp)) (fun p hp => h2 p (List.mem_cons_of_mem _ hp)) (fun p hp => h3 p (List.mem_cons_of_mem _ hp))
    obtain ⟨b1, b2, b3, b4⟩ := tl_shown (h1 q (by simp)) (h2 q (by simp))
    have b5 := h3 q (by simp)
    have e : kd eTl (q :: ts) = (Sum.inr q.1, eTl q.2) :: kd eTl ts := rfl
    rw [e, List.map_cons, List.map_cons]
    refine ⟨?_, ?_, ?_, ?_⟩
    · rw [isDataL, b1, a1]; rfl
    · rw [PyData.showableKv, b2, a2]; rfl
    · rw [PyData.depthKv]
      have : (pkD (Sum.inr q.1)).depth = 0 := rfl
      simp only [this]
      omega
    · intro y hy
      rw [PyData.shownKv] at hy
      rcases List.mem_cons.mp hy with z | z
      · rw [z, strLen_append, strLen_append]
        have h4 : (Str.ofString ": ").length = 2 := by decide +kernel
        have h5 : (pkD (Sum.inr q.1)).shown.length ≤ 20 := b5
        simp only at *
        omega
      · exact a4 y z
theorem kv_len : ∀ l : List (PyData × PyData), (PyData.shownKv l).length = l.length
  | [] => rfl
  | (a, b) :: l => by rw [PyData.shownKv, List.length_cons, List.length_cons, kv_len l]
theorem repr_told {ts : List (Str × Tl)} (w : VT ts) : ∃ t, reprK (eKd eTl ts) = some (.str t) := by
  obtain ⟨a1, a2, a3, a4⟩ := kd_shown ts w.nm w.ll w.ks
  refine ⟨(toPyK (kd eTl ts)).shown, ?_⟩
  unfold eKd reprK
  simp only
  rw [if_pos]
  refine ⟨a1, ?_, ?_, ?_⟩
  · unfold toPyK
    rw [PyData.showable]; exact a2
  · unfold toPyK
    rw [PyData.depth]; omega
  · unfold toPyK
    rw [PyData.shown]
    have := shown_dict (n := 20) a4 (by rw [kv_len, List.length_map, len_kd]; exact w.le)
    omega
end K82

set_option Elab.async false
set_option linter.all false
set_option maxRecDepth 100000
set_option maxHeartbeats 4000000
namespace K82
open PySem L2 Dl
theorem dkt (z l : D) : dk_is_taking_0_value_lots [] [z, l] = d_is_taking [l, z] := rfl
theorem dkc (z l : D) : dk_is_choice_0_value_lots [] [z, l] = d_is_choice [l, z] := rfl
section
variable {rs : List Row} {ts : List (Str × Tl)}
theorem full_e (v : VR rs) (hin : ∀ x ∈ firms rs, x ∈ ksT ts) {x1 x3 x4 x8 x9 : Option Sl} : e_ljudged_1 [some (.fz (eRows rs)), x1, some (.fz (eKd eTl ts)), x3, x4, none, none, none, x8, x9] =
    .ok (.lst (rs.map fun r => D.bl (decide (((tlOf ts r.1).2.length : Int) = r.2.2))), [some (.fz (eRows rs)), x1, some (.fz (eKd eTl ts)), x3, x4, none, none, none, x8, x9]) := by
  unfold e_ljudged_1
  rw [elc_all (l := rs) (f := eRow) (z := fun r => D.bl (decide (((tlOf ts r.1).2.length : Int) = r.2.2))) (r0 := [some (.fz (eRows rs)), x1, some (.fz (eKd eTl ts)), x3, x4, none, none, none, x8, x9])]
  · simp [restore, wipeE]
  · simp [eRows]
  · have := v.le
    omega
  · intro r hr
    have g1 := (tlOf_mem (hin r.1 (List.mem_map.mpr ⟨r, hr, rfl⟩))).2
    obtain ⟨sq, hs, es⟩ := eTl_sq (tlOf ts r.1)
    have gd : dgetD (eKd eTl ts) (.str r.1) = some (sq ((tlOf ts r.1).2.map D.str)) := by
      show getKD (kd eTl ts) (Sum.inr r.1) = _
      rw [get_kd, g1, ← es]; rfl
    refine ⟨[some (.fz (eRows rs)), x1, some (.fz (eKd eTl ts)), x3, x4, some (.fz (.str r.1)), some (.fz (.lst (r.2.1.map D.str))), some (.fz (.int r.2.2)), x8, x9], [some (.fz (eRows rs)), x1, some (.fz (eKd eTl ts)), x3, x4, some (.fz (.str r.1)), some (.fz (.lst (r.2.1.map D.str))), some (.fz (.int r.2.2)), x8, x9], ?_, ?_, ?_⟩
    · simp [wipeE, eRow]
    · rcases hs with rfl | rfl <;> simp [gd]
    · simp [wipeE]
theorem fullB_law (v : VR rs) : (rs.all fun r => decide (((tlOf ts r.1).2.length : Int) = r.2.2)) = fullB rs ts := by
  unfold fullB firms
  rw [List.all_map, Bool.eq_iff_iff, List.all_eq_true, List.all_eq_true]
  constructor
  · intro k r hr
    have := k r hr
    simp only [Function.comp]
    rw [rowOf_self v hr]
    exact this
  · intro k r hr
    have := k r hr
    simp only [Function.comp] at this
    rw [rowOf_self v hr] at this
    exact this
theorem ljudgedF (v : VR rs) (w : VT ts) : d_ljudged [eRows rs, eLots rs, eKd eTl ts] = .ok (.bl true) := by
  have e1 := lis_takingF v w
  have e2 := is_takingF v w
  have e3 := is_choiceF v w
  obtain ⟨t, e4⟩ := repr_told w
  have d1 : reprB (eKd eTl ts) = none := rfl
  have d2 : reprD (eKd eTl ts) = none := rfl
  unfold d_ljudged runF s_ljudged
  cases k : takingB rs ts with
  | false =>
    rw [k] at e1 e2 e3
    obtain ⟨r1, r2⟩ := repr2 (a := false) (b := false)
    simp at e3
    simp [startE, e1, d1, d2, e4, eCallK, dkt, dkc, e2, e3, r1, r2]
  | true =>
    rw [k] at e1 e2 e3
    have e5 := full_e (ts := ts) v (takingB_in k) (x1 := some (.fz (eLots rs))) (x3 := some (.fz (.bl true))) (x4 := none) (x8 := none) (x9 := none)
    have al := all_bl (l := rs) (p := fun r => decide (((tlOf ts r.1).2.length : Int) = r.2.2))
    rw [fullB_law v] at al
    obtain ⟨r1, r2⟩ := repr2 (a := true) (b := fullB rs ts)
    simp at e3
    simp [startE, e1, d1, d2, e4, eCallK, dkt, dkc, e2, e3, e5, al, r1, r2]
end
end K82

set_option Elab.async false
set_option linter.all false
set_option maxRecDepth 100000
set_option maxHeartbeats 4000000
namespace K82
open PySem L2 Dl
section
variable {rs : List Row}
/-- the films of the rows, each once -/
def filmsL (rs : List Row) (acc : List Str) : List Str := rs.foldl (fun a r => a ++ r.2.1.filter fun x => !decide (x ∈ a)) acc
theorem filmsL_mem {x : Str} : ∀ (rs : List Row) (acc : List Str), x ∈ filmsL rs acc ↔ (x ∈ acc ∨ ∃ r ∈ rs, x ∈ r.2.1)
  | [], acc => by simp [filmsL]
  | r :: rs, acc => by
    have ih := filmsL_mem (x := x) rs (acc ++ r.2.1.filter fun x => !decide (x ∈ acc))
    show x ∈ filmsL rs _ ↔ _
    rw [ih]
    simp only [List.mem_append, List.mem_filter, List.mem_cons, exists_eq_or_imp, Bool.not_eq_true', decide_eq_false_iff_not]
    constructor
    · rintro ((z | z) | z)
      · exact .inl z
      · exact .inr (.inl z.1)
      · exact .inr (.inr z)
    · rintro (z | z | z)
      · exact .inl (.inl z)
      · by_cases q : x ∈ acc
        · exact .inl (.inl q)
        · exact .inl (.inr ⟨z, q⟩)
      · exact .inr z
theorem filmsL_nodup : ∀ (rs : List Row) (acc : List Str), acc.Nodup → (∀ r ∈ rs, r.2.1.Nodup) → (filmsL rs acc).Nodup
  | [], acc, h, _ => h
  | r :: rs, acc, h, k => by
    refine filmsL_nodup rs _ ?_ fun p hp => k p (List.mem_cons_of_mem _ hp)
    rw [List.nodup_append]
    refine ⟨h, (k r (by simp)).filter _, fun x hx y hy e => ?_⟩
    have := (List.mem_filter.mp hy).2
    rw [← e] at this
    simp [hx] at this
theorem filmsL_len : ∀ (rs : List Row) (acc : List Str), (∀ r ∈ rs, r.2.1.length ≤ 8) → (filmsL rs acc).length ≤ acc.length + 8 * rs.length
  | [], acc, _ => by simp [filmsL]
  | r :: rs, acc, k => by
    have ih := filmsL_len rs (acc ++ r.2.1.filter fun x => !decide (x ∈ acc)) fun p hp => k p (List.mem_cons_of_mem _ hp)
    show (filmsL rs (acc ++ r.2.1.filter fun x => !decide (x ∈ acc))).length ≤ _
    have h1 := List.length_filter_le (fun x => !decide (x ∈ acc)) r.2.1
    have h2 := k r (by simp)
    rw [List.length_append] at ih
    rw [List.length_cons]
    omega
theorem films_e {r : Row} {acc : List Str} (hx : ∀ x ∈ r.2.1, Nm x) (ha : ∀ x ∈ acc, Nm x) (hl : r.2.1.length ≤ 8) {x0 : Option Sl} : e_lfilms_1 [x0, some (.ow (.lst (acc.map D.str))), some (.fz (eRow r)), none] =
    .ok (.lst ((r.2.1.filter fun x => !decide (x ∈ acc)).map D.str), [x0, some (.ow (.lst (acc.map D.str))), some (.fz (eRow r)), none]) := by
  unfold e_lfilms_1
  rw [elc_of (l := r.2.1) (f := D.str) (z := D.str) (p := fun x => !decide (x ∈ acc)) (r0 := [x0, some (.ow (.lst (acc.map D.str))), some (.fz (eRow r)), none])]
  · simp [restore, wipeE]
  · simp [eRow]
  · omega
  · intro q hq
    have i1 := (inM (x := q) (a := acc) (hx q hq).ok (strsOk ha)).2
    refine ⟨[x0, some (.ow (.lst (acc.map D.str))), some (.fz (eRow r)), some (.fz (.str q))], [x0, some (.ow (.lst (acc.map D.str))), some (.fz (eRow r)), some (.fz (.str q))], [x0, some (.ow (.lst (acc.map D.str))), some (.fz (eRow r)), some (.fz (.str q))], ?_, ?_, ?_, ?_⟩
    · simp [wipeE]
    · simp [i1]
    · intro _
      exact ⟨by simp, by simp [wipeE]⟩
    · intro _
      simp [wipeE]
theorem lfilmsF (hn : ∀ r ∈ rs, ∀ x ∈ r.2.1, Nm x) (hd : ∀ r ∈ rs, r.2.1.Nodup) (hf : ∀ r ∈ rs, r.2.1.length ≤ 8) (hl : rs.length ≤ 8) : d_lfilms [eRows rs] = .ok (.lst ((sortS (filmsL rs [])).map D.str)) := by
  obtain ⟨r', e3, y2, rfl⟩ := for_map (f := eRow) (g := gNm 2) (b := s_lfilms_2_b) (I := fun pre r => ∃ y2, r = [some (.fz (eRows rs)), some (.ow (.lst ((filmsL pre []).map D.str))), y2, none]) rs [some (.fz (eRows rs)), some (.ow (.lst [])), none, none] ⟨none, rfl⟩ (by
    rintro pre x suf r hw ⟨y2, rfl⟩
    have hx : x ∈ rs := by rw [hw]; simp
    have hp : pre.length ≤ 8 := by
      have := congrArg List.length hw
      simp at this
      omega
    have hsub : ∀ r ∈ pre, r ∈ rs := fun r hr => by rw [hw]; simp [hr]
    have ha : ∀ y ∈ filmsL pre [], Nm y := fun y hy => by
      rcases (filmsL_mem pre []).mp hy with z | ⟨r, hr, z⟩
      · cases z
      · exact hn r (hsub r hr) y z
    have le := filmsL_len pre [] fun r hr => hf r (hsub r hr)
    have e1 := films_e (r := x) (acc := filmsL pre []) (hn x hx) ha (hf x hx) (x0 := some (.fz (eRows rs)))
    have ev : filmsL (pre ++ [x]) [] = filmsL pre [] ++ x.2.1.filter fun y => !decide (y ∈ filmsL pre []) := by unfold filmsL; simp
    have h1 := List.length_filter_le (fun y => !decide (y ∈ filmsL pre [])) x.2.1
    have h2 := hf x hx
    have p3 : (filmsL pre []).length + (x.2.1.filter fun y => !decide (y ∈ filmsL pre [])).length < 100000 := by
      simp at le
      omega
    refine ⟨[some (.fz (eRows rs)), some (.ow (.lst ((filmsL pre []).map D.str))), some (.fz (eRow x)), none], [some (.fz (eRows rs)), some (.ow (.lst ((filmsL (pre ++ [x]) []).map D.str))), some (.fz (eRow x)), none], by simp, .inl ?_, _, rfl⟩
    unfold s_lfilms_2_b
    simp [e1, p3, ev])
  have le := filmsL_len rs [] hf
  have ok : ∀ y ∈ filmsL rs [], PyData.strOk y = true := fun y hy => by
    rcases (filmsL_mem rs []).mp hy with z | ⟨r, hr, z⟩
    · cases z
    · exact (hn r hr y z).ok
  have s1 := sortM ok (by simp at le; omega)
  unfold d_lfilms runF s_lfilms s_lfilms_2
  unfold eRows at e3 ⊢
  simp [startE, e3, s1]
end
end K82

set_option Elab.async false
set_option linter.all false
set_option maxRecDepth 100000
set_option maxHeartbeats 4000000
namespace Dl
open PySem L2
theorem scIn_of {g1 : D → En → Res En} {e : En → Res (D × En)} {vs1 : List Nat} {r0 : En} : ∀ (l : List Str) (acc : List Key), (∀ x ∈ l, ∃ r1 r3, g1 (.str x) (wipeE r0 vs1) = .ok r1 ∧ e r1 = .ok (.str x, r3) ∧ wipeE r3 vs1 = wipeE r0 vs1) → acc.length + l.length ≤ 1000 →
    scIn g1 e vs1 (l.map D.str) (wipeE r0 vs1) acc = .ok (acc ++ l.map Sum.inr, wipeE r0 vs1)
  | [], acc, _, _ => by simp [scIn]
  | x :: l, acc, h, hl => by
    obtain ⟨r1, r3, h1, h2, h3⟩ := h x (by simp)
    rw [List.length_cons] at hl
    rw [List.map_cons]
    unfold scIn
    rw [h1, pnoXok, bind_ok, h2, pnoXok, bind_ok]
    simp only [pkeyS, if_pos (show acc.length < 1000 by omega), h3]
    rw [scIn_of l (acc ++ [Sum.inr x]) (fun y hy => h y (List.mem_cons_of_mem _ hy)) (by rw [List.length_append, List.length_singleton]; omega)]
    simp
theorem scOut_of {F : Str → List Str} {g : D → En → Res En} {s1 : En → Res (List D × En)} {g1 : D → En → Res En} {e : En → Res (D × En)} {vs vs1 : List Nat} {r0 : En} : ∀ (hs : List Str) (acc : List Key),
    (∀ h ∈ hs, ∃ r1 r2, g (.str h) (wipeE r0 vs) = .ok r1 ∧ s1 r1 = .ok ((F h).map D.str, r2) ∧ (∀ x ∈ F h, ∃ r3 r4, g1 (.str x) (wipeE r2 vs1) = .ok r3 ∧ e r3 = .ok (.str x, r4) ∧ wipeE r4 vs1 = wipeE r2 vs1) ∧ wipeE (wipeE r2 vs1) vs = wipeE r0 vs) →
    acc.length + (hs.flatMap F).length ≤ 1000 → scOut g s1 g1 e vs vs1 (hs.map D.str) (wipeE r0 vs) acc = .ok (acc ++ (hs.flatMap F).map Sum.inr, wipeE r0 vs)
  | [], acc, _, _ => by simp [scOut]
  | h :: hs, acc, k, hl => by
    obtain ⟨r1, r2, h1, h2, h3, h4⟩ := k h (by simp)
    rw [List.flatMap_cons, List.length_append] at hl
    rw [List.map_cons]
    unfold scOut
    rw [h1, pnoXok, bind_ok, h2, pnoXok, bind_ok]
    simp only
    rw [scIn_of (F h) acc h3 (by omega), pnoXok, bind_ok]
    simp only [h4]
    rw [scOut_of hs (acc ++ (F h).map Sum.inr) (fun y hy => k y (List.mem_cons_of_mem _ hy)) (by rw [List.length_append, List.length_map]; omega)]
    simp
theorem sc2_of {F : Str → List Str} {s : En → Res (List D × En)} {g : D → En → Res En} {s1 : En → Res (List D × En)} {g1 : D → En → Res En} {e : En → Res (D × En)} {vs vs1 : List Nat} {r r0 : En} {hs : List Str} (hs0 : s r = .ok (hs.map D.str, r0))
    (k : ∀ h ∈ hs, ∃ r1 r2, g (.str h) (wipeE r0 vs) = .ok r1 ∧ s1 r1 = .ok ((F h).map D.str, r2) ∧ (∀ x ∈ F h, ∃ r3 r4, g1 (.str x) (wipeE r2 vs1) = .ok r3 ∧ e r3 = .ok (.str x, r4) ∧ wipeE r4 vs1 = wipeE r2 vs1) ∧ wipeE (wipeE r2 vs1) vs = wipeE r0 vs)
    (hl : (hs.flatMap F).length ≤ 1000) : eSc2 s g s1 g1 e vs vs1 r = .ok ((hs.flatMap F).map Sum.inr, restore r0 vs (wipeE r0 vs)) := by
  unfold eSc2
  rw [hs0, bind_ok]
  simp only
  rw [scOut_of hs [] k (by simpa using hl), pnoXok, bind_ok]
  simp
end Dl

set_option Elab.async false
set_option linter.all false
set_option maxRecDepth 100000
set_option maxHeartbeats 4000000
namespace K82
open PySem L2 Dl
section
variable {rs : List Row} {hs : List Str}
def filmsOf (rs : List Row) (h : Str) : List Str := sortS (rowOf rs h).2.1
def cutN (rs : List Row) (hs : List Str) : Nat := cntS (hs.flatMap (filmsOf rs))
def cutW (rs : List Row) (hs : List Str) : Int := (hs.map fun h => (rowOf rs h).2.2).sum
def cutB (rs : List Row) (hs : List Str) : Bool := !decide (hs = []) && (decide (hs = sortS hs) && decide ((cutN rs hs : Int) < cutW rs hs))
theorem cut_in {sq : List D → D} (hsq : Sq sq) (v : VR rs) (hl : hs.length ≤ 8) (hin : ∀ h ∈ hs, h ∈ firms rs) : e_is_cut_2 [some (.fz (eLots rs)), some (.fz (sq (hs.map D.str))), none, none, none] = .ok (.lst (hs.map fun _ => D.bl true), [some (.fz (eLots rs)), some (.fz (sq (hs.map D.str))), none, none, none]) := by
  unfold e_is_cut_2
  rw [elc_all (l := hs) (f := D.str) (z := fun _ => D.bl true) (r0 := [some (.fz (eLots rs)), some (.fz (sq (hs.map D.str))), none, none, none])]
  · simp [restore, wipeE]
  · rcases hsq with rfl | rfl <;> simp
  · omega
  · intro q hq
    have c := containsF (x := q) v
    rw [decide_eq_true (hin q hq)] at c
    refine ⟨[some (.fz (eLots rs)), some (.fz (sq (hs.map D.str))), some (.fz (.str q)), none, none], [some (.fz (eLots rs)), some (.fz (sq (hs.map D.str))), some (.fz (.str q)), none, none], ?_, ?_, ?_⟩
    · simp [wipeE]
    · unfold eLots at c ⊢
      simp [c]
    · simp [wipeE]
theorem cut_sum {sq : List D → D} (hsq : Sq sq) (v : VR rs) (hl : hs.length ≤ 8) (hin : ∀ h ∈ hs, h ∈ firms rs) {x3 x4 : Option Sl} : e_is_cut_1 [some (.fz (eLots rs)), some (.fz (sq (hs.map D.str))), none, x3, x4] = .ok (.lst (hs.map fun h => D.int (rowOf rs h).2.2), [some (.fz (eLots rs)), some (.fz (sq (hs.map D.str))), none, x3, x4]) := by
  unfold e_is_cut_1
  rw [elc_all (l := hs) (f := D.str) (z := fun h => D.int (rowOf rs h).2.2) (r0 := [some (.fz (eLots rs)), some (.fz (sq (hs.map D.str))), none, x3, x4])]
  · simp [restore, wipeE]
  · rcases hsq with rfl | rfl <;> simp
  · omega
  · intro q hq
    have c := wanted_byF v (rowOf_mem (hin q hq))
    have er : (rowOf rs q).1 = q := rfl
    rw [er] at c
    refine ⟨[some (.fz (eLots rs)), some (.fz (sq (hs.map D.str))), some (.fz (.str q)), x3, x4], [some (.fz (eLots rs)), some (.fz (sq (hs.map D.str))), some (.fz (.str q)), x3, x4], ?_, ?_, ?_⟩
    · simp [wipeE]
    · unfold eLots at c ⊢
      simp [c]
    · simp [wipeE]
theorem flat_len (v : VR rs) : ∀ hs : List Str, (∀ h ∈ hs, h ∈ firms rs) → (hs.flatMap (filmsOf rs)).length ≤ 8 * hs.length
  | [], _ => by simp
  | h :: hs, k => by
    have ih := flat_len v hs fun x hx => k x (List.mem_cons_of_mem _ hx)
    have h1 := v.fl _ (rowOf_mem (k h (by simp)))
    have h2 : (filmsOf rs h).length = (rowOf rs h).2.1.length := (sortS_perm _).length_eq
    rw [List.flatMap_cons, List.length_append, List.length_cons]
    omega
theorem cut_set {sq : List D → D} (hsq : Sq sq) (v : VR rs) (hl : hs.length ≤ 8) (hin : ∀ h ∈ hs, h ∈ firms rs) :
    s_is_cut_set [some (.fz (eLots rs)), some (.fz (sq (hs.map D.str))), none, none, none] = .rt (.bl (decide ((cutN rs hs : Int) < cutW rs hs))) [some (.fz (eLots rs)), some (.fz (sq (hs.map D.str))), none, none, none] := by
  have fl := flat_len v hs hin
  have e2 := cut_sum hsq v hl hin (x3 := none) (x4 := none)
  have su := sum_int (l := hs) (p := fun h => (rowOf rs h).2.2)
  have e1 : eSc2 (iSeq (eVar 1)) (gNm 2) (iSeq (eMeth "Lots" "films_of" d_Lots_films_of (eVar 0) (aCons (eVar 2) aNil))) (gNm 4) (eVar 4) [2, 4] [4] [some (.fz (eLots rs)), some (.fz (sq (hs.map D.str))), none, none, none] =
      .ok ((hs.flatMap (filmsOf rs)).map Sum.inr, [some (.fz (eLots rs)), some (.fz (sq (hs.map D.str))), none, none, none]) := by
    rw [sc2_of (F := filmsOf rs) (hs := hs) (r0 := [some (.fz (eLots rs)), some (.fz (sq (hs.map D.str))), none, none, none])]
    · simp [restore, wipeE]
    · rcases hsq with rfl | rfl <;> simp
    · intro h hh
      have c := films_ofF v (rowOf_mem (hin h hh))
      have er : (rowOf rs h).1 = h := rfl
      rw [er] at c
      refine ⟨[some (.fz (eLots rs)), some (.fz (sq (hs.map D.str))), some (.fz (.str h)), none, none], [some (.fz (eLots rs)), some (.fz (sq (hs.map D.str))), some (.fz (.str h)), none, none], ?_, ?_, ?_, ?_⟩
      · simp [wipeE]
      · unfold eLots at c ⊢
        simp [c, filmsOf]
      · intro x hx
        refine ⟨[some (.fz (eLots rs)), some (.fz (sq (hs.map D.str))), some (.fz (.str h)), none, some (.fz (.str x))], [some (.fz (eLots rs)), some (.fz (sq (hs.map D.str))), some (.fz (.str h)), none, some (.fz (.str x))], ?_, ?_, ?_⟩
        · simp [wipeE]
        · simp
        · simp [wipeE]
      · simp [wipeE]
    · omega
  unfold s_is_cut_set sSetLt
  rw [e1]
  simp [e2, su]
  rfl
theorem is_cutF {sq : List D → D} (hsq : Sq sq) (v : VR rs) (hl : hs.length ≤ 8) (hin : ∀ h ∈ hs, h ∈ firms rs) (nd : hs.Nodup) : d_is_cut [eLots rs, sq (hs.map D.str)] = .ok (.bl (cutB rs hs)) := by
  have hx : ∀ h ∈ hs, Nm h := fun h hh => v.nm _ (rowOf_mem (hin h hh))
  have ok := strsOk hx
  have an := are_namesF hsq hx (by omega)
  rw [decide_eq_true nd] at an
  have ne := (neM ok (sortS_ok ok)).1
  have s1 := sortM ok (by omega : hs.length ≤ 1000)
  have s2 := sortMT ok (by omega : hs.length ≤ 1000)
  have ci := cut_in hsq v hl hin
  have al : allD (.lst (hs.map fun _ => D.bl true)) = some (.bl true) := by
    rw [all_bl (p := fun _ => true)]
    simp
  have cs := cut_set hsq v hl hin
  unfold d_is_cut runF s_is_cut s_is_cut_1 s_is_cut_2 cutB
  by_cases q0 : hs = []
  · subst q0
    rcases hsq with rfl | rfl
    · simp at an
      simp [startE, an]
    · simp at an
      simp [startE, an]
  · have l0 : ¬ hs.length = 0 := fun z => q0 (List.length_eq_zero_iff.mp z)
    have l1 : ¬ (hs.length : Int) = 0 := by omega
    by_cases q1 : hs = sortS hs
    · rw [decide_eq_true q1] at ne
      rcases hsq with rfl | rfl
      · simp [startE, an, q0, s1, ne, ci, al, cs]
        simp [← q1]
      · simp [startE, an, q0, s2, ne, ci, al, cs]
        simp [← q1]
    · rw [decide_eq_false q1] at ne
      rcases hsq with rfl | rfl
      · simp [startE, an, q0, s1, ne, q1]
      · simp [startE, an, q0, s2, ne, q1]
end
end K82

set_option Elab.async false
set_option linter.all false
set_option maxRecDepth 100000
set_option maxHeartbeats 4000000
namespace K82
open PySem L2 Dl
theorem sum_perm {l m : List Int} (h : l.Perm m) : l.sum = m.sum := by
  induction h with
  | nil => rfl
  | cons x _ ih => simp [ih]
  | swap x y l => simp; omega
  | trans _ _ a b => exact a.trans b
theorem dkcut (z l : D) : dk_is_cut_0_value_lots [] [z, l] = d_is_cut [l, z] := rfl
section
variable {rs : List Row} {hs : List Str}
def someR (rs : List Row) (hs : List Str) : List Row := rs.filter fun r => decide (r.1 ∈ hs)
theorem some_perm (v : VR rs) (hin : ∀ h ∈ hs, h ∈ firms rs) (nd : hs.Nodup) : (firms (someR rs hs)).Perm hs := by
  have n1 : (firms (someR rs hs)).Nodup := by
    unfold firms someR
    exact List.Nodup.sublist ((List.filter_sublist).map _) v.nd
  have mem : ∀ x, x ∈ firms (someR rs hs) ↔ x ∈ hs := fun x => by
    unfold firms someR
    rw [List.mem_map]
    constructor
    · rintro ⟨r, hr, rfl⟩
      exact of_decide_eq_true (List.mem_filter.mp hr).2
    · intro hx
      obtain ⟨r, hr, rfl⟩ := List.mem_map.mp (hin x hx)
      exact ⟨r, List.mem_filter.mpr ⟨hr, decide_eq_true hx⟩, rfl⟩
  exact perm_of_sub n1 nd (len_of_same n1 nd mem) fun x hx => (mem x).mp hx
theorem some_e (v : VR rs) (hx : ∀ h ∈ hs, PyData.strOk h = true) {x1 x3 x5 : Option Sl} : e_lcut_right_1 [some (.fz (eRows rs)), x1, some (.fz (.lst (hs.map D.str))), x3, none, x5] = .ok (eRows (someR rs hs), [some (.fz (eRows rs)), x1, some (.fz (.lst (hs.map D.str))), x3, none, x5]) := by
  unfold e_lcut_right_1
  rw [elc_of (l := rs) (f := eRow) (z := eRow) (p := fun r => decide (r.1 ∈ hs)) (r0 := [some (.fz (eRows rs)), x1, some (.fz (.lst (hs.map D.str))), x3, none, x5])]
  · simp [restore, wipeE, eRows, someR]
  · simp [eRows]
  · have := v.le
    omega
  · intro q hq
    have i1 := (inM (x := q.1) (a := hs) (v.nm q hq).ok hx).1
    refine ⟨[some (.fz (eRows rs)), x1, some (.fz (.lst (hs.map D.str))), x3, some (.fz (eRow q)), x5], [some (.fz (eRows rs)), x1, some (.fz (.lst (hs.map D.str))), x3, some (.fz (eRow q)), x5], [some (.fz (eRows rs)), x1, some (.fz (.lst (hs.map D.str))), x3, some (.fz (eRow q)), x5], ?_, ?_, ?_, ?_⟩
    · simp [wipeE]
    · simp [eRow, i1]
    · intro _
      exact ⟨by simp, by simp [wipeE]⟩
    · intro _
      simp [wipeE]
theorem sum_e {ss : List Row} (hl : ss.length ≤ 8) {x0 x1 x2 x5 : Option Sl} : e_lcut_right_2 [x0, x1, x2, some (.fz (eRows ss)), none, x5] = .ok (.lst (ss.map fun r => D.int r.2.2), [x0, x1, x2, some (.fz (eRows ss)), none, x5]) := by
  unfold e_lcut_right_2
  rw [elc_all (l := ss) (f := eRow) (z := fun r => D.int r.2.2) (r0 := [x0, x1, x2, some (.fz (eRows ss)), none, x5])]
  · simp [restore, wipeE]
  · simp [eRows]
  · omega
  · intro q hq
    refine ⟨[x0, x1, x2, some (.fz (eRows ss)), some (.fz (eRow q)), x5], [x0, x1, x2, some (.fz (eRows ss)), some (.fz (eRow q)), x5], ?_, ?_, ?_⟩
    · simp [wipeE]
    · simp [eRow]
    · simp [wipeE]
theorem some_n (v : VR rs) (hin : ∀ h ∈ hs, h ∈ firms rs) (nd : hs.Nodup) : (filmsL (someR rs hs) []).length = cutN rs hs := by
  have sub : ∀ r ∈ someR rs hs, r ∈ rs := fun r hr => (List.mem_filter.mp hr).1
  have p := some_perm v hin nd
  have n1 := filmsL_nodup (someR rs hs) [] List.nodup_nil fun r hr => v.fd r (sub r hr)
  rw [← cntS_iff.mpr n1]
  refine cntS_same fun x => ?_
  rw [filmsL_mem]
  simp only [List.not_mem_nil, false_or, List.mem_flatMap]
  constructor
  · rintro ⟨r, hr, z⟩
    refine ⟨r.1, p.mem_iff.mp (List.mem_map.mpr ⟨r, hr, rfl⟩), ?_⟩
    unfold filmsOf
    rw [rowOf_self v (sub r hr)]
    exact sortS_mem.mpr z
  · rintro ⟨h, hh, z⟩
    obtain ⟨r, hr, rfl⟩ := List.mem_map.mp (p.mem_iff.mpr hh)
    refine ⟨r, hr, ?_⟩
    unfold filmsOf at z
    rw [rowOf_self v (sub r hr)] at z
    exact sortS_mem.mp z
theorem some_w (v : VR rs) (hin : ∀ h ∈ hs, h ∈ firms rs) (nd : hs.Nodup) : ((someR rs hs).map fun r => r.2.2).sum = cutW rs hs := by
  have sub : ∀ r ∈ someR rs hs, r ∈ rs := fun r hr => (List.mem_filter.mp hr).1
  have p := (some_perm v hin nd).map fun h => (rowOf rs h).2.2
  unfold cutW
  rw [← sum_perm p]
  unfold firms
  rw [List.map_map]
  congr 1
  refine List.map_congr_left fun r hr => ?_
  simp only [Function.comp]
  rw [rowOf_self v (sub r hr)]
theorem lcut_rightF (v : VR rs) (hl : hs.length ≤ 8) (hin : ∀ h ∈ hs, h ∈ firms rs) (nd : hs.Nodup) : d_lcut_right [eRows rs, eLots rs, .lst (hs.map D.str)] = .ok (.bl true) := by
  have hx : ∀ h ∈ hs, Nm h := fun h hh => v.nm _ (rowOf_mem (hin h hh))
  have ok := strsOk hx
  have sub : ∀ r ∈ someR rs hs, r ∈ rs := fun r hr => (List.mem_filter.mp hr).1
  have ls : (someR rs hs).length = hs.length := by
    have := (some_perm v hin nd).length_eq
    unfold firms at this
    rw [List.length_map] at this
    exact this
  have e1 := some_e (hs := hs) v ok (x1 := some (.fz (eLots rs))) (x3 := none) (x5 := none)
  have c1 := is_cutF (sq := D.lst) (.inl rfl) v hl hin nd
  have c2 := is_cutF (sq := D.tup) (.inr rfl) v hl hin nd
  have s1 := sortM ok (by omega : hs.length ≤ 1000)
  have eq1 := (neM ok (sortS_ok ok)).2
  have ne0 := (neM (a := hs) (b := []) ok (by simp)).1
  have lf := lfilmsF (rs := someR rs hs) (fun r hr => v.fn r (sub r hr)) (fun r hr => v.fd r (sub r hr)) (fun r hr => v.fl r (sub r hr)) (by omega)
  have sn : (sortS (filmsL (someR rs hs) [])).length = cutN rs hs := by rw [(sortS_perm _).length_eq]; exact some_n v hin nd
  have su := sum_int (l := someR rs hs) (p := fun r => r.2.2)
  rw [some_w v hin nd] at su
  have ee := fun (x5 : Option Sl) => sum_e (ss := someR rs hs) (by omega) (x0 := some (.fz (eRows rs))) (x1 := some (.fz (eLots rs))) (x2 := some (.fz (.lst (hs.map D.str)))) (x5 := x5)
  rw [List.map_nil] at ne0
  obtain ⟨r1, r2⟩ := repr2 (a := cutB rs hs) (b := cutB rs hs)
  unfold d_lcut_right runF s_lcut_right s_lcut_right_4
  unfold cutB at c1 c2 r1 r2
  generalize hH : D.lst (hs.map D.str) = Hd at *
  have h2 : Hd = .lst (hs.map D.str) := hH.symm
  have lh : lenD Hd = some (.int hs.length) := by rw [h2, plenL, List.length_map]
  have th : tupleD Hd = some (.tup (hs.map D.str)) := by rw [h2]; rfl
  have ls' : lenD (eRows (someR rs hs)) = some (.int hs.length) := by unfold eRows; rw [plenL, List.length_map, ls]
  have sb : lenD (D.lst ((sortS (filmsL (someR rs hs) [])).map D.str)) = some (.int (cutN rs hs)) := by rw [plenL, List.length_map, sn]
  by_cases q0 : hs = []
  · rw [decide_eq_true q0] at ne0
    simp only [decide_eq_true q0, Bool.not_true, Bool.false_and] at c1 c2 r1 r2
    simp [startE, e1, ne0, eCallK, dkcut, th, c1, c2, r1, r2]
  · rw [decide_eq_false q0] at ne0
    by_cases q1 : hs = sortS hs
    · rw [decide_eq_true q1] at eq1
      simp only [decide_eq_false q0, decide_eq_true q1, Bool.not_false, Bool.true_and] at c1 c2 r1 r2
      simp [startE, e1, ne0, s1, eq1, ls', lh, lf, ee, su, eCallK, dkcut, th, c1, c2, r1, r2, sn]
    · rw [decide_eq_false q1] at eq1
      simp only [decide_eq_false q0, decide_eq_false q1, Bool.not_false, Bool.true_and, Bool.false_and] at c1 c2 r1 r2
      simp [startE, e1, ne0, s1, eq1, eCallK, dkcut, th, c1, c2, r1, r2]
end
end K82

set_option Elab.async false
set_option linter.all false
set_option maxRecDepth 100000
set_option maxHeartbeats 4000000
namespace Dl
open PySem L2
/-- a dict comprehension over a mapped list, its keys different texts -/
theorem edc_all {α β : Type} {f : β → D} {h : α → D} {kf : α → Str} {z : α → β} {s : En → Res (List D × En)} {g : D → En → Res En} {ek e : En → Res (D × En)} {vs : List Nat} {r r0 : En} {l : List α} (hs : s r = .ok (l.map h, r0)) (hl : l.length ≤ 100000) (nd : (l.map kf).Nodup)
    (k : ∀ x ∈ l, ∃ r1 r2 r3, g (h x) (wipeE r0 vs) = .ok r1 ∧ ek r1 = .ok (.str (kf x), r2) ∧ e r2 = .ok (f (z x), r3) ∧ wipeE r3 vs = wipeE r0 vs) :
    eDc s g tYesD ek e vs r = .ok (eKd f (l.map fun x => (kf x, z x)), restore r0 vs (wipeE r0 vs)) := by
  unfold eDc
  rw [hs, bind_ok]
  simp only [List.length_map, if_pos hl]
  have key : ∀ (m : List α) (acc : List (Str × β)), (∀ x ∈ m, x ∈ l) → (ksT acc ++ m.map kf).Nodup → dcLoop g tYesD ek e vs (m.map h) (wipeE r0 vs) (kd f acc) = .ok (kd f (acc ++ m.map fun x => (kf x, z x)), wipeE r0 vs) := by
    intro m
    induction m with
    | nil => intro acc _ _; simp [dcLoop]
    | cons x m ih =>
      intro acc hm nd
      obtain ⟨r1, r2, r3, h1, h2, h3, h4⟩ := k x (hm x (by simp))
      rw [List.map_cons]
      unfold dcLoop
      rw [h1, pnoXok, bind_ok]
      simp only [ptyes, pnoXok, bind_ok]
      rw [h2, pnoXok, bind_ok]
      simp only
      rw [h3, pnoXok, bind_ok]
      simp only [pkeyS, h4]
      have nx : kf x ∉ ksT acc := by
        rw [List.map_cons, List.nodup_append] at nd
        exact fun w => nd.2.2 _ w _ (by simp) rfl
      have e1 : putT acc (kf x) (z x) = acc ++ [(kf x, z x)] := by unfold putT; rw [if_neg nx]
      rw [put_kd, e1, ih (acc ++ [(kf x, z x)]) (fun y hy => hm y (List.mem_cons_of_mem _ hy)) (by
        unfold ksT at nd ⊢
        simpa using nd)]
      simp
  have := key l [] (fun x hx => hx) (by simpa [ksT] using nd)
  have e0 : kd f ([] : List (Str × β)) = [] := rfl
  rw [e0] at this
  rw [this, pnoXok, bind_ok]
  simp [eKd]
end Dl

set_option Elab.async false
set_option linter.all false
set_option maxRecDepth 100000
set_option maxHeartbeats 4000000
namespace K82
open PySem L2 Dl
section
variable {rs : List Row}
theorem is_lotF (v : VR rs) {r : Row} (h : r ∈ rs) : d_is_lot [eRow r] = .ok (.bl true) := by
  have e1 := (v.nm r h).nm
  have e2 : d_is_count [.int r.2.2] = .ok (.bl true) := by
    have : (0 : Int) ≤ r.2.2 := v.w0 r h
    have i1 : d_is_integer [.int r.2.2] = .ok (.bl true) := rfl
    unfold d_is_count runF s_is_count
    simp [startE, i1, this]
  have fl := v.fl r h
  have e3 := are_namesF (sq := D.lst) (.inl rfl) (v.fn r h) (by omega)
  rw [decide_eq_true (v.fd r h)] at e3
  have l0 : ¬ r.2.1.length = 0 := fun z => v.f0 r h (List.length_eq_zero_iff.mp z)
  unfold d_is_lot runF s_is_lot s_is_lot_1 eRow
  simp [startE, e1, e2, e3]
  omega
theorem want_lotsF (v : VR rs) : d_want_lots [eRows rs] = .ok .non := by
  have il : d_is_list [eRows rs] = .ok (.bl true) := rfl
  have le := v.le
  have l0 : ¬ rs.length = 0 := fun z => v.ne (List.length_eq_zero_iff.mp z)
  have e1 : s_want_lots_1 [some (.fz (eRows rs)), none, none, none] = .nx [some (.fz (eRows rs)), none, none, none] := by
    unfold s_want_lots_1
    unfold eRows at il ⊢
    simp [il, v.ne]
  have step : ∀ d ds r, (∃ pre suf, rs = pre ++ suf ∧ d :: ds = ((suf.map eRow).zipIdx pre.length).map (fun q => D.tup [.int q.2, q.1]) ∧ ∃ y2 y3, r = [some (Sl.fz (eRows rs)), some (.ow (.lst ((firms pre).map D.str))), y2, y3]) →
      ∃ r1 r2, (gTp 2 (gsCons (gNm 2) (gsCons (gNm 3) gsNil))) d r = .ok r1 ∧ (s_want_lots_3_b r1 = .nx r2 ∨ s_want_lots_3_b r1 = .ct r2) ∧ ∃ pre suf, rs = pre ++ suf ∧ ds = ((suf.map eRow).zipIdx pre.length).map (fun q => D.tup [.int q.2, q.1]) ∧ ∃ y2 y3, r2 = [some (Sl.fz (eRows rs)), some (.ow (.lst ((firms pre).map D.str))), y2, y3] := by
    rintro d ds r ⟨pre, suf, hms, hd, y2, y3, rfl⟩
    cases suf with
    | nil => simp at hd
    | cons x suf =>
      rw [List.map_cons, enum_cons] at hd
      obtain ⟨rfl, rfl⟩ := List.cons.inj hd
      have hx : x ∈ rs := by rw [hms]; simp
      have lot := is_lotF v hx
      have nin : x.1 ∉ firms pre := by
        have nd := v.nd
        rw [hms] at nd
        unfold firms at nd ⊢
        rw [List.map_append, List.nodup_append] at nd
        exact fun z => nd.2.2 _ z _ (by simp) rfl
      have hp : ∀ y ∈ firms pre, PyData.strOk y = true := fun y hy => by
        obtain ⟨r, hr, rfl⟩ := List.mem_map.mp hy
        exact (v.nm r (by rw [hms]; simp [hr])).ok
      have i1 := (inM (x := x.1) (a := firms pre) (v.nm x hx).ok hp).1
      rw [decide_eq_false nin] at i1
      have lp : (firms pre).length < 100000 := by
        have := congrArg List.length hms
        unfold firms
        rw [List.length_map]
        simp at this
        omega
      have ef : (firms (pre ++ [x])).map D.str = (firms pre).map D.str ++ [.str x.1] := by unfold firms; simp
      refine ⟨_, [some (.fz (eRows rs)), some (.ow (.lst ((firms (pre ++ [x])).map D.str))), some (.fz (.int pre.length)), some (.fz (eRow x))], by simp; rfl, .inl ?_, pre ++ [x], suf, by simp [hms], by simp, _, _, rfl⟩
      unfold s_want_lots_3_b s_want_lots_3_1
      unfold eRow at lot ⊢
      rw [ef]
      simp [lot, i1, lp]
  obtain ⟨r', e, pre, suf, _, _, y2, y3, rfl⟩ := for_ind (I := fun l r => ∃ pre suf, rs = pre ++ suf ∧ l = ((suf.map eRow).zipIdx pre.length).map (fun q => D.tup [.int q.2, q.1]) ∧ ∃ y2 y3, r = [some (Sl.fz (eRows rs)), some (.ow (.lst ((firms pre).map D.str))), y2, y3])
    (ds := ((rs.map eRow).zipIdx 0).map fun q => D.tup [.int q.2, q.1]) (r := [some (.fz (eRows rs)), some (.ow (.lst [])), none, none]) ⟨[], rs, rfl, rfl, none, none, rfl⟩ step
  unfold d_want_lots runF s_want_lots s_want_lots_3
  unfold eRows at e e1 ⊢
  simp [startE, e1, enumD] at e ⊢
  simp [e]
end
end K82

set_option Elab.async false
set_option linter.all false
set_option maxRecDepth 100000
set_option maxHeartbeats 4000000
namespace K82
open PySem L2 Dl
section
variable {rs : List Row}
def found (rs : List Row) : List (Str × Lot) := rs.map fun r => (r.1, (sortS r.2.1, r.2.2))
theorem init_e1 (v : VR rs) {x5 : Option Sl} : e_Lots_init_1 [some (.bo (.ins "Lots" [])), some (.fz (eRows rs)), none, none, none, x5] = .ok (.lst (rs.map fun _ => D.bl false), [some (.bo (.ins "Lots" [])), some (.fz (eRows rs)), none, none, none, x5]) := by
  unfold e_Lots_init_1
  rw [elc_all (l := rs) (f := eRow) (z := fun _ => D.bl false) (r0 := [some (.bo (.ins "Lots" [])), some (.fz (eRows rs)), none, none, none, x5])]
  · simp [restore, wipeE]
  · simp [eRows]
  · have := v.le
    omega
  · intro r hr
    have fl := v.fl r hr
    have q : ¬ (8 : Int) < r.2.1.length := by omega
    refine ⟨[some (.bo (.ins "Lots" [])), some (.fz (eRows rs)), some (.fz (.str r.1)), some (.fz (.lst (r.2.1.map D.str))), some (.fz (.int r.2.2)), x5], [some (.bo (.ins "Lots" [])), some (.fz (eRows rs)), some (.fz (.str r.1)), some (.fz (.lst (r.2.1.map D.str))), some (.fz (.int r.2.2)), x5], ?_, ?_, ?_⟩
    · simp [wipeE, eRow]
    · simp
      omega
    · simp [wipeE]
theorem init_e2 (v : VR rs) {x5 : Option Sl} : e_Lots_init_2 [some (.bo (.ins "Lots" [])), some (.fz (eRows rs)), none, none, none, x5] = .ok (eKd eLot (found rs), [some (.bo (.ins "Lots" [])), some (.fz (eRows rs)), none, none, none, x5]) := by
  unfold e_Lots_init_2
  rw [edc_all (l := rs) (h := eRow) (kf := fun r => r.1) (z := fun r => (sortS r.2.1, r.2.2)) (f := eLot) (r0 := [some (.bo (.ins "Lots" [])), some (.fz (eRows rs)), none, none, none, x5])]
  · simp [restore, wipeE, found]
  · simp [eRows]
  · have := v.le
    omega
  · exact v.nd
  · intro r hr
    have fl := v.fl r hr
    have s1 := sortM (strsOk (v.fn r hr)) (by omega)
    refine ⟨[some (.bo (.ins "Lots" [])), some (.fz (eRows rs)), some (.fz (.str r.1)), some (.fz (.lst (r.2.1.map D.str))), some (.fz (.int r.2.2)), x5], [some (.bo (.ins "Lots" [])), some (.fz (eRows rs)), some (.fz (.str r.1)), some (.fz (.lst (r.2.1.map D.str))), some (.fz (.int r.2.2)), x5], [some (.bo (.ins "Lots" [])), some (.fz (eRows rs)), some (.fz (.str r.1)), some (.fz (.lst (r.2.1.map D.str))), some (.fz (.int r.2.2)), x5], ?_, ?_, ?_, ?_⟩
    · simp [wipeE, eRow]
    · simp
    · simp [s1, eLot]
    · simp [wipeE]
theorem ks_found : ksT (found rs) = firms rs := by
  unfold ksT found firms
  rw [List.map_map]
  rfl
theorem init_e3 (v : VR rs) {x2 x3 x4 : Option Sl} : e_Lots_init_3 [some (.bo (.ins "Lots" [])), some (.fz (eRows rs)), none, x3, x4, some (.fz (eKd eLot (found rs)))] = .ok (eKd eLot (lots rs), [some (.bo (.ins "Lots" [])), some (.fz (eRows rs)), none, x3, x4, some (.fz (eKd eLot (found rs)))]) := by
  have lf : (sortS (firms rs)).length ≤ 8 := by rw [(sortS_perm _).length_eq]; unfold firms; rw [List.length_map]; exact v.le
  have d1 : sortedD (eKd eLot (found rs)) = none := rfl
  have d2 : sortedT (eKd eLot (found rs)) = none := rfl
  have s1 := sorted_kd (f := eLot) (l := found rs) (by unfold found; rw [List.length_map]; have := v.le; omega)
  rw [ks_found] at s1
  unfold e_Lots_init_3
  rw [edc_all (l := sortS (firms rs)) (h := D.str) (kf := fun h => h) (z := fun h => (sortS ((getT rs h).getD ([], 0)).1, ((getT rs h).getD ([], 0)).2)) (f := eLot) (r0 := [some (.bo (.ins "Lots" [])), some (.fz (eRows rs)), none, x3, x4, some (.fz (eKd eLot (found rs)))])]
  · simp [restore, wipeE, lots]
  · simp [d1, d2, s1]
  · omega
  · rw [List.map_id']
    exact (sortS_perm _).nodup_iff.mpr v.nd
  · intro h hh
    obtain ⟨r, hr, rfl⟩ := List.mem_map.mp (sortS_mem.mp hh)
    have g : getT rs r.1 = some r.2 := getT_of (l := rs) (x := r.1) (a := r.2) hr v.nd
    have g2 : getT (found rs) r.1 = some (sortS r.2.1, r.2.2) := getT_of (List.mem_map.mpr ⟨r, hr, rfl⟩) (by rw [ks_found]; exact v.nd)
    have gd : dgetD (eKd eLot (found rs)) (.str r.1) = some (eLot (sortS r.2.1, r.2.2)) := by
      show getKD (kd eLot (found rs)) (Sum.inr r.1) = _
      rw [get_kd, g2]
      rfl
    refine ⟨[some (.bo (.ins "Lots" [])), some (.fz (eRows rs)), some (.fz (.str r.1)), x3, x4, some (.fz (eKd eLot (found rs)))], [some (.bo (.ins "Lots" [])), some (.fz (eRows rs)), some (.fz (.str r.1)), x3, x4, some (.fz (eKd eLot (found rs)))], [some (.bo (.ins "Lots" [])), some (.fz (eRows rs)), some (.fz (.str r.1)), x3, x4, some (.fz (eKd eLot (found rs)))], ?_, ?_, ?_, ?_⟩
    · simp [wipeE]
    · simp
    · simp [gd, g]
    · simp [wipeE]
theorem init_ok (v : VR rs) : b_Lots_init (.ins "Lots" []) [eRows rs] = .ok (.non, eLots rs) := by
  have w := want_lotsF v
  have e1 := init_e1 v (x5 := none)
  have e2 := init_e2 v (x5 := none)
  have e3 := init_e3 v (x2 := none) (x3 := none) (x4 := none)
  have le := v.le
  have q : ¬ (8 : Int) < rs.length := by omega
  have an : anyD (.lst (rs.map fun _ => D.bl false)) = some (.bl false) := by
    have e : (rs.map fun _ => D.bl false) = (rs.map fun _ => false).map D.bl := by simp
    unfold anyD
    simp only
    rw [e, bls]
    simp
  have lr : lenD (eRows rs) = some (.int rs.length) := by unfold eRows; rw [plenL, List.length_map]
  unfold b_Lots_init runB s_Lots_init s_Lots_init_2 s_Lots_init_3
  simp [startB, w, lr, q, e1, an, e2, e3, eLots]
end
end K82

set_option Elab.async false
set_option linter.all false
set_option maxRecDepth 100000
set_option maxHeartbeats 4000000
namespace K82
open PySem L2 Dl
section
variable {rs : List Row}
theorem VR.perm {ss : List Row} (v : VR rs) (p : rs.Perm ss) : VR ss where
  ne := fun z => v.ne (by rw [z] at p; exact p.eq_nil)
  le := by rw [← p.length_eq]; exact v.le
  nd := (p.map (fun r : Row => r.1)).nodup_iff.mp v.nd
  nm := fun r hr => v.nm r (p.mem_iff.mpr hr)
  fn := fun r hr => v.fn r (p.mem_iff.mpr hr)
  fd := fun r hr => v.fd r (p.mem_iff.mpr hr)
  f0 := fun r hr => v.f0 r (p.mem_iff.mpr hr)
  fl := fun r hr => v.fl r (p.mem_iff.mpr hr)
  w0 := fun r hr => v.w0 r (p.mem_iff.mpr hr)
theorem lots_perm {ss : List Row} (v : VR rs) (p : rs.Perm ss) : eLots ss = eLots rs := by
  have e1 : sortS (firms ss) = sortS (firms rs) := (sortS_eq (p.map (fun r : Row => r.1))).symm
  have e2 : lots ss = lots rs := by
    unfold lots
    rw [e1]
    refine List.map_congr_left fun h hh => ?_
    obtain ⟨r, hr, rfl⟩ := List.mem_map.mp (sortS_mem.mp hh)
    have g : getT rs r.1 = some r.2 := getT_of (l := rs) (x := r.1) (a := r.2) hr v.nd
    have g2 : getT ss r.1 = some r.2 := getT_of (l := ss) (x := r.1) (a := r.2) (p.mem_iff.mp hr) (v.perm p).nd
    rw [g, g2]
  unfold eLots
  rw [e2]
theorem llotsF {pot : D} (h : VP pot) (v : VR rs) : ∃ pot', b_llots pot [eRows rs] = .ok (eLots rs, pot') ∧ VP pot' := by
  obtain ⟨k, pot', e, h0, h1, vp⟩ := drawF (n := 2) h (by decide) (by decide)
  have p : rs.Perm rs.reverse := (List.reverse_perm rs).symm
  have i1 := init_ok v
  have i2 := init_ok (v.perm p)
  rw [lots_perm v p] at i2
  have er : D.lst (List.map eRow rs).reverse = eRows rs.reverse := by unfold eRows; rw [List.map_reverse]
  have no : noOwn (eLots rs) = true := rfl
  refine ⟨pot', ?_, vp⟩
  have rv : revD (eRows rs) = some (eRows rs.reverse) := by rw [← er]; rfl
  unfold b_llots runB s_llots
  have hk : k = 0 ∨ k = 1 := by omega
  rcases hk with rfl | rfl
  · simp [startB, rv, e, i2]
    simp [eLots, eKd]
  · simp [startB, rv, e, i1]
    simp [eLots, eKd]
end
end K82

set_option Elab.async false
set_option linter.all false
set_option maxRecDepth 100000
set_option maxHeartbeats 4000000
namespace Dl
open PySem L2
/-- a comprehension that picks; the state may change -/
theorem elc_sub {α : Type} {f : α → D} {s : En → Res (List D × En)} {g : D → En → Res En} {t : En → Res (Bool × En)} {e : En → Res (D × En)} {vs : List Nat} {r r0 : En} {l : List α} {I : En → Prop} (hs : s r = .ok (l.map f, r0)) (hl : l.length ≤ 100000) (h0 : I (wipeE r0 vs))
    (h : ∀ x ∈ l, ∀ r, I r → ∃ r1 b r2, g (f x) r = .ok r1 ∧ t r1 = .ok (b, r2) ∧ (b = true → ∃ r3, e r2 = .ok (f x, r3) ∧ I (wipeE r3 vs)) ∧ (b = false → I (wipeE r2 vs))) :
    ∃ (m : List α) (r' : En), m.Sublist l ∧ eLc s g t e vs r = .ok (.lst (m.map f), restore r0 vs r') ∧ I r' := by
  have key : ∀ (n : List α) (acc : List D) (r : En), (∀ x ∈ n, x ∈ l) → I r → ∃ (m : List α) (r' : En), m.Sublist n ∧ lcLoop g t e vs (n.map f) r acc = .ok (acc ++ m.map f, r') ∧ I r' := by
    intro n
    induction n with
    | nil => intro acc r _ hr; exact ⟨[], r, .slnil, by simp [lcLoop], hr⟩
    | cons x n ih =>
      intro acc r hm hr
      obtain ⟨r1, b, r2, h1, h2, h3, h4⟩ := h x (hm x (by simp)) r hr
      rw [List.map_cons]
      unfold lcLoop
      rw [h1, nX_ok, bind_ok, h2, nX_ok, bind_ok]
      cases b with
      | true =>
        obtain ⟨r3, h5, h6⟩ := h3 rfl
        obtain ⟨m, r', k1, k2, k3⟩ := ih (acc ++ [f x]) (wipeE r3 vs) (fun y hy => hm y (List.mem_cons_of_mem _ hy)) h6
        simp only
        rw [h5, nX_ok, bind_ok]
        simp only
        rw [k2]
        exact ⟨x :: m, r', k1.cons₂ x, by simp, k3⟩
      | false =>
        obtain ⟨m, r', k1, k2, k3⟩ := ih acc (wipeE r2 vs) (fun y hy => hm y (List.mem_cons_of_mem _ hy)) (h4 rfl)
        simp only
        rw [k2]
        exact ⟨m, r', k1.cons x, rfl, k3⟩
  obtain ⟨m, r', k1, k2, k3⟩ := key l [] (wipeE r0 vs) (fun x hx => hx) h0
  refine ⟨m, r', k1, ?_, k3⟩
  unfold eLc
  rw [hs, bind_ok]
  simp only [List.length_map, if_pos hl]
  rw [k2, nX_ok, bind_ok]
  simp
end Dl

set_option Elab.async false
set_option linter.all false
set_option maxRecDepth 100000
set_option maxHeartbeats 4000000
namespace K82
open PySem L2 Dl
def fs6 : List Str := ["f", "g", "h", "k", "l", "m"]
def hs5 : List Str := ["x", "y", "z", "w", "v"]
theorem nm_fs : ∀ x ∈ fs6, Nm x := by
  intro x hx
  simp only [fs6, List.mem_cons, List.not_mem_nil, or_false] at hx
  rcases hx with rfl | rfl | rfl | rfl | rfl | rfl <;> exact ⟨by kernel_rfl, by decide +kernel, by decide +kernel⟩
theorem nm_hs : ∀ x ∈ hs5, Nm x := by
  intro x hx
  simp only [hs5, List.mem_cons, List.not_mem_nil, or_false] at hx
  rcases hx with rfl | rfl | rfl | rfl | rfl <;> exact ⟨by kernel_rfl, by decide +kernel, by decide +kernel⟩
theorem nd_fs : fs6.Nodup := by decide +kernel
theorem nd_hs : hs5.Nodup := by decide +kernel
end K82

set_option Elab.async false
set_option linter.all false
set_option maxRecDepth 100000
set_option maxHeartbeats 4000000
namespace K82
open PySem L2 Dl
def fs5 : List Str := ["f", "g", "h", "k", "l"]
theorem cut5 : cutD (fs6.map D.str) none (some 5) = fs5.map D.str := by kernel_rfl
theorem sub56 : fs5.Sublist fs6 := by decide +kernel
theorem nd5 : fs5.Nodup := by decide +kernel
section
variable {pot : D} {x1 x3 x4 x5 : Option Sl}
theorem rows_e (h : VP pot) : ∃ (m : List Str) (pot' : D), m.Sublist fs5 ∧ e_lrows_1 [some (.bo pot), x1, some (.fz (.int 5)), x3, x4, x5, none] = .ok (.lst (m.map D.str), [some (.bo pot'), x1, some (.fz (.int 5)), x3, x4, x5, none]) ∧ VP pot' := by
  have hs : iSeq (eSl slL (bOf (eLst (aCons (eC (.str "f")) (aCons (eC (.str "g")) (aCons (eC (.str "h")) (aCons (eC (.str "k")) (aCons (eC (.str "l")) (aCons (eC (.str "m")) aNil)))))))) doNone (doSome (eVar 2))) [some (.bo pot), x1, some (.fz (.int 5)), x3, x4, x5, none] = .ok (fs5.map D.str, [some (.bo pot), x1, some (.fz (.int 5)), x3, x4, x5, none]) := by
    have := cut5
    simp [fs6] at this
    simp [this]
  unfold e_lrows_1
  obtain ⟨m, r', k1, k2, pot', v, rfl⟩ := elc_sub (f := D.str) (vs := [6]) (I := fun r => ∃ pot', VP pot' ∧ r = [some (.bo pot'), x1, some (.fz (.int 5)), x3, x4, x5, none]) hs (by decide) ⟨pot, h, by simp [wipeE]⟩ (g := gNm 6) (t := tOfE (eBin eqD (bOf (eCallB b_ldraw 0 (aCons (eC (.int 2)) aNil))) (bOf (eC (.int 0))))) (e := eVar 6) (by
    rintro x hx r ⟨pot', v, rfl⟩
    obtain ⟨k, pot2, e, h0, h1, vp⟩ := drawF (n := 2) v (by decide) (by decide)
    refine ⟨[some (.bo pot'), x1, some (.fz (.int 5)), x3, x4, x5, some (.fz (.str x))], decide (k = 0), [some (.bo pot2), x1, some (.fz (.int 5)), x3, x4, x5, some (.fz (.str x))], by simp, by simp [e], fun _ => ⟨_, by simp; rfl, pot2, vp, by simp [wipeE]⟩, fun _ => ⟨pot2, vp, by simp [wipeE]⟩⟩)
  exact ⟨m, pot', k1, by rw [k2]; simp [restore], v⟩
/-- a row as the law draws it -/
structure ROk (r : Row) : Prop where
  sub : ∀ x ∈ r.2.1, x ∈ fs5
  nd : r.2.1.Nodup
  ne : r.2.1 ≠ []
  le : r.2.1.length ≤ 5
  w : 0 ≤ r.2.2 ∧ r.2.2 ≤ 3
theorem rows_b (h : VP pot) {acc : List Row} (ha : acc.length < 100) {hm : Str} : ∃ (r : Row) (pot' : D) (x : Option Sl), r.1 = hm ∧ ROk r ∧ VP pot' ∧
    s_lrows_2_b [some (.bo pot), x1, some (.fz (.int 5)), some (.ow (.lst (acc.map eRow))), some (.fz (.str hm)), x5, none] = .nx [some (.bo pot'), x1, some (.fz (.int 5)), some (.ow (.lst ((acc ++ [r]).map eRow))), some (.fz (.str hm)), x, none] := by
  obtain ⟨m, pot1, k1, k2, v1⟩ := rows_e (x1 := x1) (x3 := some (.ow (.lst (acc.map eRow)))) (x4 := some (.fz (.str hm))) (x5 := x5) h
  obtain ⟨k, pot2, e, h0, h1, v2⟩ := drawF (n := 6) v1 (by decide) (by decide)
  have hw : ∃ w : Int, atI [D.int 0, D.int 1, D.int 1, D.int 2, D.int 1, D.int 3] k = some (.int w) ∧ 0 ≤ w ∧ w ≤ 3 := by
    obtain ⟨x, ex, hx⟩ := atI_mem (l := [(0 : Int), 1, 1, 2, 1, 3]) (k := k) h0 (by simpa using h1)
    refine ⟨x, ?_, ?_⟩
    · have : atI ([(0 : Int), 1, 1, 2, 1, 3].map D.int) k = (atI [(0 : Int), 1, 1, 2, 1, 3] k).map D.int := by
        obtain ⟨n, rfl⟩ := Int.eq_ofNat_of_zero_le h0
        rw [Dl.atI_nat, Dl.atI_nat, List.getElem?_map]
      rw [ex] at this
      exact this
    · simp at hx
      omega
  obtain ⟨w, ew, hw⟩ := hw
  have hl : acc.length < 100000 := by omega
  have hne : neD (.lst (m.map D.str)) (.lst []) = some (.bl (!decide (m = []))) := by
    have := (neM (a := m) (b := []) (fun x hx => (nm_fs x (sub56.subset (k1.subset hx))).ok) (by simp)).1
    simpa using this
  by_cases q : m = []
  · subst q
    refine ⟨(hm, ["f"], w), pot2, some (.fz (.lst [])), rfl, ⟨by simp [fs5], by simp, by simp, by simp, hw⟩, v2, ?_⟩
    unfold s_lrows_2_b s_lrows_2_2
    simp at k2 hne
    simp [k2, hne, e, ew, eRow, hl, atMineS, Sl.mine, Sl.d, Sl.put]
  · refine ⟨(hm, m.reverse, w), pot2, some (.fz (.lst (m.map D.str))), rfl, ⟨fun x hx => k1.subset (List.mem_reverse.mp hx), (List.reverse_perm _).nodup_iff.mpr (k1.nodup nd5), by simpa using q, by have := k1.length_le; simp [fs5] at this; simpa using this, hw⟩, v2, ?_⟩
    unfold s_lrows_2_b s_lrows_2_2
    simp [k2, hne, q, e, ew, eRow, hl, atMineS, Sl.mine, Sl.d, Sl.put]
end
end K82

set_option Elab.async false
set_option linter.all false
set_option maxRecDepth 100000
set_option maxHeartbeats 4000000
namespace K82
open PySem L2 Dl
/-- rows as the law draws them -/
structure DR (rs : List Row) : Prop where
  v : VR rs
  ok : ∀ r ∈ rs, ROk r
  l4 : rs.length ≤ 4
  hs : ∀ x ∈ firms rs, x ∈ hs5
theorem dr_of {rs : List Row} {n : Nat} (h0 : 1 ≤ n) (h4 : n ≤ 4) (e : firms rs = hs5.take n) (ok : ∀ r ∈ rs, ROk r) : DR rs := by
  have el : rs.length = n := by
    have := congrArg List.length e
    unfold firms hs5 at this
    simp at this
    omega
  have hh : ∀ x ∈ firms rs, x ∈ hs5 := fun x hx => List.mem_of_mem_take (by rw [← e]; exact hx)
  refine ⟨⟨?_, by omega, ?_, ?_, ?_, fun r hr => (ok r hr).nd, fun r hr => (ok r hr).ne, fun r hr => ?_, fun r hr => (ok r hr).w.1⟩, ok, by omega, hh⟩
  · intro z
    rw [z] at el
    simp at el
    omega
  · rw [e]
    exact (List.take_sublist n hs5).nodup nd_hs
  · intro r hr
    exact nm_hs _ (hh _ (List.mem_map.mpr ⟨r, hr, rfl⟩))
  · intro r hr x hx
    exact nm_fs _ (sub56.subset ((ok r hr).sub x hx))
  · have := (ok r hr).le
    omega
theorem hcut {k : Int} (h0 : 0 ≤ k) (h1 : k < 4) : ∃ n : Nat, 1 ≤ n ∧ n ≤ 4 ∧ cutD (hs5.map D.str) none (some (1 + k)) = (hs5.take n).map D.str := by
  have : k = 0 ∨ k = 1 ∨ k = 2 ∨ k = 3 := by omega
  rcases this with rfl | rfl | rfl | rfl
  · exact ⟨1, by decide, by decide, by kernel_rfl⟩
  · exact ⟨2, by decide, by decide, by kernel_rfl⟩
  · exact ⟨3, by decide, by decide, by kernel_rfl⟩
  · exact ⟨4, by decide, by decide, by kernel_rfl⟩
theorem lrowsF {pot : D} (h : VP pot) : ∃ (rs : List Row) (pot' : D), b_lrows pot [.int 4, .int 5] = .ok (eRows rs, pot') ∧ DR rs ∧ VP pot' := by
  obtain ⟨k, pot1, e, h0, h1, v1⟩ := drawF (n := 4) h (by decide) (by decide)
  obtain ⟨n, n1, n4, ec⟩ := hcut h0 h1
  obtain ⟨r', e3, rs, pot2, x4, x5, ef, ok, v2, rfl⟩ := for_map (f := D.str) (g := gNm 4) (b := s_lrows_2_b) (I := fun pre r => ∃ (rs : List Row) (pot' : D) (x4 x5 : Option Sl), firms rs = pre ∧ (∀ r ∈ rs, ROk r) ∧ VP pot' ∧ r = [some (.bo pot'), some (.fz (.int 4)), some (.fz (.int 5)), some (.ow (.lst (rs.map eRow))), x4, x5, none]) (hs5.take n) [some (.bo pot1), some (.fz (.int 4)), some (.fz (.int 5)), some (.ow (.lst [])), none, none, none] ⟨[], pot1, none, none, rfl, by simp, v1, rfl⟩ (by
    rintro pre x suf r hw ⟨rs, pot', x4, x5, ef, ok, v, rfl⟩
    have hl : rs.length < 100 := by
      have a := congrArg List.length hw
      have b := congrArg List.length ef
      unfold firms at b
      simp [hs5] at a b
      omega
    obtain ⟨q, pot2, y, e1, e2, v2, e3⟩ := rows_b (x1 := some (.fz (.int 4))) (x5 := x5) v hl (hm := x)
    refine ⟨_, _, rfl, .inl e3, rs ++ [q], pot2, _, _, ?_, ?_, v2, rfl⟩
    · unfold firms at ef ⊢
      simp [ef, e1]
    · intro p hp
      rcases List.mem_append.mp hp with z | z
      · exact ok p z
      · rw [List.mem_singleton.mp z]
        exact e2)
  refine ⟨rs, pot2, ?_, dr_of n1 n4 ef ok, v2⟩
  simp only [hs5, List.map_cons, List.map_nil] at ec
  unfold b_lrows runB s_lrows s_lrows_2
  simp [startB, e, ec]
  simp [hs5] at e3
  simp [e3, eRows]
end K82

set_option Elab.async false
set_option linter.all false
set_option maxRecDepth 100000
set_option maxHeartbeats 4000000
namespace K82
open PySem L2 Dl
abbrev Way : Type := List (Str × Tl)
/-- a way to give films: by the firms, lists of films -/
structure WO (rs : List Row) (n : Nat) (way : Way) : Prop where
  ks : ksT way = firms rs
  fl : ∀ q ∈ way, q.2.1 = false
  sb : ∀ q ∈ way, ∀ x ∈ q.2.2, x ∈ fs5
  ll : ∀ q ∈ way, q.2.2.length ≤ n
theorem WO.more {rs : List Row} {n m : Nat} {way : Way} (w : WO rs n way) (h : n ≤ m) : WO rs m way := ⟨w.ks, w.fl, w.sb, fun q hq => Nat.le_trans (w.ll q hq) h⟩
theorem WO.vt {rs : List Row} {n : Nat} {way : Way} (d : DR rs) (w : WO rs n way) (h : n ≤ 100) : VT way where
  nd := by rw [w.ks]; exact d.v.nd
  le := by
    have := congrArg List.length w.ks
    unfold ksT firms at this
    simp at this
    have := d.l4
    omega
  nm := fun q hq x hx => nm_fs _ (sub56.subset (w.sb q hq x hx))
  ll := fun q hq => Nat.le_trans (w.ll q hq) h
  ko := fun q hq => (nm_hs _ (d.hs _ (by rw [← w.ks]; exact List.mem_map.mpr ⟨q, hq, rfl⟩))).ok
  ks := fun q hq => (nm_hs _ (d.hs _ (by rw [← w.ks]; exact List.mem_map.mpr ⟨q, hq, rfl⟩))).sh
def newW (film hm : Str) (way : Way) : Way := way.map fun q => (q.1, ((false, q.2.2 ++ (if q.1 = hm then [film] else [])) : Tl))
theorem newW_ok {rs : List Row} {n : Nat} {film hm : Str} {way : Way} (hf : film ∈ fs5) (w : WO rs n way) : WO rs (n + 1) (newW film hm way) := by
  refine ⟨?_, ?_, ?_, ?_⟩
  · rw [← w.ks]
    unfold ksT newW
    rw [List.map_map]
    rfl
  · intro q hq
    obtain ⟨p, hp, rfl⟩ := List.mem_map.mp hq
    rfl
  · intro q hq x hx
    obtain ⟨p, hp, rfl⟩ := List.mem_map.mp hq
    simp only at hx
    rcases List.mem_append.mp hx with z | z
    · exact w.sb p hp x z
    · split at z
      · rw [List.mem_singleton.mp z]; exact hf
      · cases z
  · intro q hq
    obtain ⟨p, hp, rfl⟩ := List.mem_map.mp hq
    have := w.ll p hp
    simp only [List.length_append]
    split <;> simp <;> omega
theorem eTl_f {t : Tl} (h : t.1 = false) : eTl t = .lst (t.2.map D.str) := by
  unfold eTl
  rw [h]
  rfl
section
variable {rs : List Row} {n : Nat} {film hm : Str} {way : Way}
theorem WO.get (d : DR rs) (w : WO rs n way) {q : Str × Tl} (hq : q ∈ way) : getT way q.1 = some q.2 := getT_of (l := way) (x := q.1) (a := q.2) hq (by rw [w.ks]; exact d.v.nd)
theorem WO.len (d : DR rs) (w : WO rs n way) : way.length ≤ 4 := by
  have := congrArg List.length w.ks
  unfold ksT firms at this
  simp at this
  have := d.l4
  omega
theorem tk_e2 (d : DR rs) (w : WO rs n way) (hn : n ≤ 100) {x0 x1 x2 x4 x7 x8 x10 : Option Sl} : e_ltakings_2 [x0, x1, x2, some (.fz (.str film)), x4, some (.fz (eKd eTl way)), some (.fz (.str hm)), x7, x8, none, x10] =
    .ok (.lst ((newW film hm way).map fun q => D.tup [.str q.1, eTl q.2]), [x0, x1, x2, some (.fz (.str film)), x4, some (.fz (eKd eTl way)), some (.fz (.str hm)), x7, x8, none, x10]) := by
  unfold e_ltakings_2
  rw [elc_all (l := way) (f := fun q => D.str q.1) (z := fun q => D.tup [.str q.1, .lst ((q.2.2 ++ (if q.1 = hm then [film] else [])).map D.str)]) (r0 := [x0, x1, x2, some (.fz (.str film)), x4, some (.fz (eKd eTl way)), some (.fz (.str hm)), x7, x8, none, x10])]
  · simp [restore, wipeE, newW, eTl]
  · simp [eKd, keys_kd, ksT]
  · have := w.len d
    omega
  · intro q hq
    have g := w.get d hq
    have ll := w.ll q hq
    have et := eTl_f (w.fl q hq)
    refine ⟨[x0, x1, x2, some (.fz (.str film)), x4, some (.fz (eKd eTl way)), some (.fz (.str hm)), x7, x8, some (.fz (.str q.1)), x10], [x0, x1, x2, some (.fz (.str film)), x4, some (.fz (eKd eTl way)), some (.fz (.str hm)), x7, x8, some (.fz (.str q.1)), x10], ?_, ?_, ?_⟩
    · simp [wipeE]
    · by_cases c : q.1 = hm
      · simp [eKd, get_kd, g, et, c]
        have c1 : q.2.2.length + 1 ≤ 100000 := by omega
        simp [← c, get_kd, g, et, c1]
      · simp [eKd, get_kd, g, et, c]
        have c1 : q.2.2.length ≤ 100000 := by omega
        simp [c1]
    · simp [wipeE]
/-- one firm -/
theorem tk_turn (d : DR rs) (w : WO rs n way) (hn : n ≤ 100) (hf : film ∈ fs5) {r : Row} (hr : r ∈ rs) {acc : List Way} (ha : acc.length < 100000) {x0 x1 x2 x10 : Option Sl} :
    s_ltakings_2_2_2_1 [x0, x1, x2, some (.fz (.str film)), some (.ow (.lst (acc.map (eKd eTl)))), some (.fz (eKd eTl way)), some (.fz (.str r.1)), some (.fz (.lst (r.2.1.map D.str))), some (.fz (.int r.2.2)), none, x10] =
      .nx [x0, x1, x2, some (.fz (.str film)), some (.ow (.lst (acc.map (eKd eTl)))), some (.fz (eKd eTl way)), some (.fz (.str r.1)), some (.fz (.lst (r.2.1.map D.str))), some (.fz (.int r.2.2)), none, x10] ∨
    s_ltakings_2_2_2_1 [x0, x1, x2, some (.fz (.str film)), some (.ow (.lst (acc.map (eKd eTl)))), some (.fz (eKd eTl way)), some (.fz (.str r.1)), some (.fz (.lst (r.2.1.map D.str))), some (.fz (.int r.2.2)), none, x10] =
      .nx [x0, x1, x2, some (.fz (.str film)), some (.ow (.lst ((acc ++ [newW film r.1 way]).map (eKd eTl)))), some (.fz (eKd eTl way)), some (.fz (.str r.1)), some (.fz (.lst (r.2.1.map D.str))), some (.fz (.int r.2.2)), none, x10] := by
  have i1 := (inM (x := film) (a := r.2.1) (nm_fs _ (sub56.subset hf)).ok (strsOk (d.v.fn r hr))).1
  have hk : r.1 ∈ ksT way := by rw [w.ks]; exact List.mem_map.mpr ⟨r, hr, rfl⟩
  obtain ⟨hm, hg⟩ := tlOf_mem hk
  have et := eTl_f (w.fl _ hm)
  simp only at et
  have e2 := tk_e2 (film := film) (hm := r.1) d w hn (x0 := x0) (x1 := x1) (x2 := x2) (x4 := some (.ow (.lst (acc.map (eKd eTl))))) (x7 := some (.fz (.lst (r.2.1.map D.str)))) (x8 := some (.fz (.int r.2.2))) (x10 := x10)
  have dt := dictT (f := eTl) (l := newW film r.1 way) (by rw [(newW_ok (hm := r.1) hf w).ks]; exact d.v.nd)
  have dd : dictD (.lst ((newW film r.1 way).map fun q => D.tup [.str q.1, eTl q.2])) = none ∨ dictD (.lst ((newW film r.1 way).map fun q => D.tup [.str q.1, eTl q.2])) = some (eKd eTl (newW film r.1 way)) := by
    exact .inl rfl
  have du : orU dictD dictP (.lst ((newW film r.1 way).map fun q => D.tup [.str q.1, eTl q.2])) = some (eKd eTl (newW film r.1 way)) := by
    rcases dd with z | z <;> simp [z, dt]
  have lg : dgetD (eKd eTl way) (.str r.1) = some (.lst ((tlOf way r.1).2.map D.str)) := by
    unfold eKd
    rw [pdgetS, get_kd, hg, Option.map_some, et]
  by_cases c1 : film ∈ r.2.1
  · by_cases c2 : ((tlOf way r.1).2.length : Int) < r.2.2
    · right
      unfold s_ltakings_2_2_2_1
      simp only [psif, ptand, ptofe, pbin, pbvar, pbof, pun]
      simp [i1, c1, c2, lg, ha]
      simp at e2 du
      simp [e2, du, ha]
    · left
      unfold s_ltakings_2_2_2_1
      simp [i1, c1, c2, lg]
  · left
    unfold s_ltakings_2_2_2_1
    simp [i1, c1]
end
end K82

set_option Elab.async false
set_option linter.all false
set_option maxRecDepth 100000
set_option maxHeartbeats 4000000
namespace K82
open PySem L2 Dl
section
variable {rs : List Row} {n : Nat} {film : Str} {way : Way}
/-- all firms, for one way -/
theorem tk_in (d : DR rs) (w : WO rs n way) (hn : n ≤ 99) (hf : film ∈ fs5) {acc : List Way} (ha : acc.length ≤ 90000) (an : acc ≠ []) (ao : ∀ a ∈ acc, WO rs (n + 1) a) {x1 x6 x7 x8 : Option Sl} :
    ∃ (acc' : List Way) (y6 y7 y8 : Option Sl), s_ltakings_2_2_2 [some (.fz (eRows rs)), x1, none, some (.fz (.str film)), some (.ow (.lst (acc.map (eKd eTl)))), some (.fz (eKd eTl way)), x6, x7, x8, none, none] =
      .nx [some (.fz (eRows rs)), x1, none, some (.fz (.str film)), some (.ow (.lst (acc'.map (eKd eTl)))), some (.fz (eKd eTl way)), y6, y7, y8, none, none] ∧ acc'.length ≤ acc.length + 4 ∧ acc' ≠ [] ∧ ∀ a ∈ acc', WO rs (n + 1) a := by
  obtain ⟨r', e3, acc', y6, y7, y8, l1, l2, l3, rfl⟩ := for_map (f := eRow) (g := gTp 3 (gsCons (gNm 6) (gsCons (gNm 7) (gsCons (gNm 8) gsNil)))) (b := s_ltakings_2_2_2_1)
    (I := fun pre r => ∃ (acc' : List Way) (y6 y7 y8 : Option Sl), acc'.length ≤ acc.length + pre.length ∧ acc' ≠ [] ∧ (∀ a ∈ acc', WO rs (n + 1) a) ∧ r = [some (.fz (eRows rs)), x1, none, some (.fz (.str film)), some (.ow (.lst (acc'.map (eKd eTl)))), some (.fz (eKd eTl way)), y6, y7, y8, none, none])
    rs [some (.fz (eRows rs)), x1, none, some (.fz (.str film)), some (.ow (.lst (acc.map (eKd eTl)))), some (.fz (eKd eTl way)), x6, x7, x8, none, none] ⟨acc, _, _, _, by simp, an, ao, rfl⟩ (by
    rintro pre x suf r hw ⟨acc', y6, y7, y8, l1, l2, l3, rfl⟩
    have hx : x ∈ rs := by rw [hw]; simp
    have hp : pre.length ≤ 4 := by
      have a := congrArg List.length hw
      have := d.l4
      simp at a
      omega
    have tt := tk_turn d w (by omega) hf hx (acc := acc') (by omega) (x0 := some (.fz (eRows rs))) (x1 := x1) (x2 := none) (x10 := none)
    rcases tt with tt | tt
    · refine ⟨_, _, rfl, .inl tt, acc', _, _, _, by simp; omega, l2, l3, rfl⟩
    · refine ⟨_, _, rfl, .inl tt, acc' ++ [newW film x.1 way], _, _, _, by simp; omega, by simp, ?_, rfl⟩
      intro a ha
      rcases List.mem_append.mp ha with z | z
      · exact l3 a z
      · rw [List.mem_singleton.mp z]
        exact newW_ok hf w)
  have := d.l4
  refine ⟨acc', y6, y7, y8, ?_, by omega, l2, l3⟩
  unfold s_ltakings_2_2_2
  unfold eRows at e3 ⊢
  simp [e3]
/-- all ways so far -/
theorem tk_mid (d : DR rs) (hn : n ≤ 99) (hf : film ∈ fs5) {ws : List Way} (hl : ws.length ≤ 10000) (wn : ws ≠ []) (wo : ∀ w ∈ ws, WO rs n w) {x5 x6 x7 x8 : Option Sl} :
    ∃ (acc' : List Way) (y5 y6 y7 y8 : Option Sl), s_ltakings_2_2 [some (.fz (eRows rs)), some (.fz (.lst (ws.map (eKd eTl)))), none, some (.fz (.str film)), some (.ow (.lst [])), x5, x6, x7, x8, none, none] =
      .nx [some (.fz (eRows rs)), some (.fz (.lst (ws.map (eKd eTl)))), none, some (.fz (.str film)), some (.ow (.lst (acc'.map (eKd eTl)))), y5, y6, y7, y8, none, none] ∧ acc'.length ≤ 5 * ws.length ∧ acc' ≠ [] ∧ ∀ a ∈ acc', WO rs (n + 1) a := by
  obtain ⟨r', e3, acc', y5, y6, y7, y8, l1, l2, l3, rfl⟩ := for_map (f := eKd eTl) (g := gNm 5) (b := s_ltakings_2_2_b)
    (I := fun pre r => ∃ (acc' : List Way) (y5 y6 y7 y8 : Option Sl), acc'.length ≤ 5 * pre.length ∧ (pre ≠ [] → acc' ≠ []) ∧ (∀ a ∈ acc', WO rs (n + 1) a) ∧ r = [some (.fz (eRows rs)), some (.fz (.lst (ws.map (eKd eTl)))), none, some (.fz (.str film)), some (.ow (.lst (acc'.map (eKd eTl)))), y5, y6, y7, y8, none, none])
    ws [some (.fz (eRows rs)), some (.fz (.lst (ws.map (eKd eTl)))), none, some (.fz (.str film)), some (.ow (.lst [])), x5, x6, x7, x8, none, none] ⟨[], _, _, _, _, by simp, by simp, by simp, rfl⟩ (by
    rintro pre x suf r hw ⟨acc', y5, y6, y7, y8, l1, l2, l3, rfl⟩
    have hx : x ∈ ws := by rw [hw]; simp
    have hp : pre.length ≤ 10000 := by
      have a := congrArg List.length hw
      simp at a
      omega
    obtain ⟨acc2, z6, z7, z8, e1, m1, m2, m3⟩ := tk_in d (wo x hx) hn hf (acc := acc' ++ [x]) (by simp; omega) (by simp) (by
      intro a ha
      rcases List.mem_append.mp ha with z | z
      · exact l3 a z
      · rw [List.mem_singleton.mp z]
        exact (wo x hx).more (by omega)) (x1 := some (.fz (.lst (ws.map (eKd eTl))))) (x6 := y6) (x7 := y7) (x8 := y8)
    have ha : acc'.length < 100000 := by omega
    refine ⟨[some (.fz (eRows rs)), some (.fz (.lst (ws.map (eKd eTl)))), none, some (.fz (.str film)), some (.ow (.lst (acc'.map (eKd eTl)))), some (.fz (eKd eTl x)), y6, y7, y8, none, none], [some (.fz (eRows rs)), some (.fz (.lst (ws.map (eKd eTl)))), none, some (.fz (.str film)), some (.ow (.lst (acc2.map (eKd eTl)))), some (.fz (eKd eTl x)), z6, z7, z8, none, none], by simp, .inl ?_, acc2, _, _, _, _, ?_, fun _ => m2, m3, rfl⟩
    · unfold s_ltakings_2_2_b
      simp at e1
      simp [ha, e1]
    · simp at m1 ⊢
      omega)
  refine ⟨acc', y5, y6, y7, y8, ?_, l1, l2 wn, l3⟩
  unfold s_ltakings_2_2
  simp [e3]
theorem tk_e3 {acc : List Way} (hl : acc.length ≤ 100000) {x0 x1 x2 x3 x5 x6 x7 x8 x9 : Option Sl} : e_ltakings_3 [x0, x1, x2, x3, some (.ow (.lst (acc.map (eKd eTl)))), x5, x6, x7, x8, x9, none] =
    .ok (.lst (acc.map (eKd eTl)), [x0, x1, x2, x3, some (.fz (.lst (acc.map (eKd eTl)))), x5, x6, x7, x8, x9, none]) := by
  unfold e_ltakings_3
  rw [elc_all (l := acc) (f := eKd eTl) (z := eKd eTl) (r0 := [x0, x1, x2, x3, some (.fz (.lst (acc.map (eKd eTl)))), x5, x6, x7, x8, x9, none])]
  · simp [restore, wipeE]
  · simp
  · exact hl
  · intro q hq
    refine ⟨[x0, x1, x2, x3, some (.fz (.lst (acc.map (eKd eTl)))), x5, x6, x7, x8, x9, some (.fz (eKd eTl q))], [x0, x1, x2, x3, some (.fz (.lst (acc.map (eKd eTl)))), x5, x6, x7, x8, x9, some (.fz (eKd eTl q))], ?_, ?_, ?_⟩
    · simp [wipeE]
    · simp
    · simp [wipeE]
theorem tk_e1 (hl : rs.length ≤ 8) {x1 x3 x4 x5 x6 x7 x8 x9 x10 : Option Sl} : e_ltakings_1 [some (.fz (eRows rs)), x1, none, x3, x4, x5, x6, x7, x8, x9, x10] =
    .ok (.lst ((rs.map fun r => (r.1, ((false, []) : Tl))).map fun q => D.tup [.str q.1, eTl q.2]), [some (.fz (eRows rs)), x1, none, x3, x4, x5, x6, x7, x8, x9, x10]) := by
  unfold e_ltakings_1
  rw [elc_all (l := rs) (f := eRow) (z := fun r => D.tup [.str r.1, .lst []]) (r0 := [some (.fz (eRows rs)), x1, none, x3, x4, x5, x6, x7, x8, x9, x10])]
  · simp [restore, wipeE, eTl]
  · simp [eRows]
  · omega
  · intro q hq
    refine ⟨[some (.fz (eRows rs)), x1, some (.fz (eRow q)), x3, x4, x5, x6, x7, x8, x9, x10], [some (.fz (eRows rs)), x1, some (.fz (eRow q)), x3, x4, x5, x6, x7, x8, x9, x10], ?_, ?_, ?_⟩
    · simp [wipeE]
    · simp [eRow]
    · simp [wipeE]
theorem five {k : Nat} (h : k ≤ 5) : 5 ^ k ≤ 3125 := by
  have : k = 0 ∨ k = 1 ∨ k = 2 ∨ k = 3 ∨ k = 4 ∨ k = 5 := by omega
  rcases this with rfl | rfl | rfl | rfl | rfl | rfl <;> decide
theorem ltakingsF (d : DR rs) : ∃ ws : List Way, d_ltakings [eRows rs] = .ok (.lst (ws.map (eKd eTl))) ∧ ws ≠ [] ∧ ws.length ≤ 3125 ∧ ∀ w ∈ ws, WO rs 5 w := by
  have fl := lfilmsF d.v.fn d.v.fd d.v.fl d.v.le
  have fm : ∀ x ∈ sortS (filmsL rs []), x ∈ fs5 := fun x hx => by
    rcases (filmsL_mem rs []).mp (sortS_mem.mp hx) with z | ⟨r, hr, z⟩
    · cases z
    · exact (d.ok r hr).sub x z
  have f5 : (sortS (filmsL rs [])).length ≤ 5 := by
    have nd : (sortS (filmsL rs [])).Nodup := (sortS_perm _).nodup_iff.mpr (filmsL_nodup rs [] List.nodup_nil d.v.fd)
    exact nd.length_le_of_subset (l₂ := fs5) fun x hx => fm x hx
  have w0 : WO rs 0 (rs.map fun r => (r.1, ((false, []) : Tl))) := by
    refine ⟨?_, ?_, ?_, ?_⟩
    · unfold ksT firms
      rw [List.map_map]
      rfl
    all_goals
      intro q hq
      obtain ⟨p, hp, rfl⟩ := List.mem_map.mp hq
      simp
  have dt := dictT (f := eTl) (l := rs.map fun r => (r.1, ((false, []) : Tl))) (by rw [w0.ks]; exact d.v.nd)
  have du : orU dictD dictP (.lst ((rs.map fun r => (r.1, ((false, []) : Tl))).map fun q => D.tup [.str q.1, eTl q.2])) = some (eKd eTl (rs.map fun r => (r.1, ((false, []) : Tl)))) := by
    simp only [porU]
    exact dt
  have e1 := tk_e1 (rs := rs) d.v.le (x1 := none) (x3 := none) (x4 := none) (x5 := none) (x6 := none) (x7 := none) (x8 := none) (x9 := none) (x10 := none)
  obtain ⟨r', e3, ws, y3, y4, y5, y6, y7, y8, l1, l2, l3, rfl⟩ := for_map (f := D.str) (g := gNm 3) (b := s_ltakings_2_b)
    (I := fun pre r => ∃ (ws : List Way) (y3 y4 y5 y6 y7 y8 : Option Sl), ws ≠ [] ∧ ws.length ≤ 5 ^ pre.length ∧ (∀ a ∈ ws, WO rs pre.length a) ∧ r = [some (.fz (eRows rs)), some (.fz (.lst (ws.map (eKd eTl)))), none, y3, y4, y5, y6, y7, y8, none, none])
    (sortS (filmsL rs [])) [some (.fz (eRows rs)), some (.fz (.lst [eKd eTl (rs.map fun r => (r.1, ((false, []) : Tl)))])), none, none, none, none, none, none, none, none, none] ⟨[rs.map fun r => (r.1, ((false, []) : Tl))], _, _, _, _, _, _, by simp, by simp, by simpa using w0, rfl⟩ (by
    rintro pre x suf r hw ⟨ws, y3, y4, y5, y6, y7, y8, l1, l2, l3, rfl⟩
    have hx : x ∈ sortS (filmsL rs []) := by rw [hw]; simp
    have hp : pre.length ≤ 4 := by
      have a := congrArg List.length hw
      simp at a
      omega
    have l5 := five (k := pre.length) (by omega)
    obtain ⟨acc, z5, z6, z7, z8, e1, m1, m2, m3⟩ := tk_mid d (n := pre.length) (by omega) (fm x hx) (ws := ws) (by omega) l1 l3 (x5 := y5) (x6 := y6) (x7 := y7) (x8 := y8)
    have e2 := tk_e3 (acc := acc) (by omega) (x0 := some (.fz (eRows rs))) (x1 := some (.fz (.lst (ws.map (eKd eTl))))) (x2 := none) (x3 := some (.fz (.str x))) (x5 := z5) (x6 := z6) (x7 := z7) (x8 := z8) (x9 := none)
    refine ⟨[some (.fz (eRows rs)), some (.fz (.lst (ws.map (eKd eTl)))), none, some (.fz (.str x)), y4, y5, y6, y7, y8, none, none], [some (.fz (eRows rs)), some (.fz (.lst (acc.map (eKd eTl)))), none, some (.fz (.str x)), some (.fz (.lst (acc.map (eKd eTl)))), z5, z6, z7, z8, none, none], by simp, .inl ?_, acc, _, _, _, _, _, _, m2, ?_, ?_, rfl⟩
    · unfold s_ltakings_2_b
      simp [e1, e2]
    · rw [List.length_append, List.length_singleton, Nat.pow_succ]
      omega
    · rw [List.length_append, List.length_singleton]
      exact m3)
  have l5 := five f5
  refine ⟨ws, ?_, l1, by omega, fun w hw => (l3 w hw).more f5⟩
  unfold d_ltakings runF s_ltakings s_ltakings_2
  simp only [startE, pseq, pset]
  simp at e1 du
  simp [e1, du, fl, e3]
end
end K82

set_option Elab.async false
set_option linter.all false
set_option maxRecDepth 100000
set_option maxHeartbeats 4000000
namespace K82
open PySem L2 Dl
theorem put_mem {α : Type} {l : List (Str × α)} {x : Str} {a : α} {q : Str × α} (h : q ∈ putT l x a) : q ∈ l ∨ q = (x, a) := by
  unfold putT at h
  split at h
  · obtain ⟨p, hp, e⟩ := List.mem_map.mp h
    split at e
    · rename_i c
      rw [c] at e
      exact .inr e.symm
    · rw [← e]
      exact .inl hp
  · rcases List.mem_append.mp h with z | z
    · exact .inl z
    · exact .inr (List.mem_singleton.mp z)
theorem put_len {α : Type} {l : List (Str × α)} {x : Str} {a : α} : (putT l x a).length ≤ l.length + 1 := by
  unfold putT
  split <;> simp
theorem put_nd {α : Type} {l : List (Str × α)} {x : Str} {a : α} (h : (ksT l).Nodup) : (ksT (putT l x a)).Nodup := by
  rw [keys_put]
  split
  · exact h
  · rename_i c
    rw [List.nodup_append]
    exact ⟨h, by simp, fun y hy z hz e => c (by rw [← List.mem_singleton.mp hz, ← e]; exact hy)⟩
theorem vt_put {ts : List (Str × Tl)} {x : Str} {t : Tl} (v : VT ts) (hl : ts.length ≤ 19) (ho : PyData.strOk x = true) (hs : (PyData.str x).shown.length ≤ 20) (hn : ∀ y ∈ t.2, Nm y) (ht : t.2.length ≤ 100) : VT (putT ts x t) where
  nd := put_nd v.nd
  le := by
    have := put_len (l := ts) (x := x) (a := t)
    omega
  nm := fun q hq => by
    rcases put_mem hq with z | rfl
    · exact v.nm q z
    · exact hn
  ll := fun q hq => by
    rcases put_mem hq with z | rfl
    · exact v.ll q z
    · exact ht
  ko := fun q hq => by
    rcases put_mem hq with z | rfl
    · exact v.ko q z
    · exact ho
  ks := fun q hq => by
    rcases put_mem hq with z | rfl
    · exact v.ks q z
    · exact hs
theorem vt_drop {ts : List (Str × Tl)} (p : Str × Tl → Bool) (v : VT ts) : VT (ts.filter p) where
  nd := (List.filter_sublist.map _).nodup v.nd
  le := Nat.le_trans (List.length_filter_le _ _) v.le
  nm := fun q hq => v.nm q (List.mem_filter.mp hq).1
  ll := fun q hq => v.ll q (List.mem_filter.mp hq).1
  ko := fun q hq => v.ko q (List.mem_filter.mp hq).1
  ks := fun q hq => v.ks q (List.mem_filter.mp hq).1
theorem dput_kd {way : Way} {t : Tl} {firm : Str} {fk fv : En → Res (D × En)} {r : En} {pot : D} {x1 x2 x4 x5 x6 : Option Sl} (hv : fv r = .ok (eTl t, [some (.bo pot), x1, x2, some (.ow (eKd eTl way)), x4, x5, x6]))
    (hk : fk [some (.bo pot), x1, x2, some (.ow (eKd eTl way)), x4, x5, x6] = .ok (.str firm, [some (.bo pot), x1, x2, some (.ow (eKd eTl way)), x4, x5, x6])) (hl : way.length < 100000) : sDPutD 3 fk fv r = .nx [some (.bo pot), x1, x2, some (.ow (eKd eTl (putT way firm t))), x4, x5, x6] := by
  have h1 : (kd eTl way).length < 100000 := by rw [len_kd]; exact hl
  unfold sDPutD
  rw [hv]
  unfold eKd at hk ⊢
  simp [hk, h1, put_kd]
section
variable {rs : List Row} {way : Way} {pot : D} {firm : Str} {k : Int}
abbrev SP (rs : List Row) (way told : Way) (pot : D) (firm : Str) (k : Int) : En := [some (.bo pot), some (.fz (eRows rs)), some (.fz (eKd eTl way)), some (.ow (eKd eTl told)), some (.fz (.str firm)), none, some (.fz (.int k))]
theorem sp_get (d : DR rs) (w : WO rs 5 way) (hf : firm ∈ firms rs) : dgetD (eKd eTl way) (.str firm) = some (.lst ((tlOf way firm).2.map D.str)) := by
  have hk : firm ∈ ksT way := by rw [w.ks]; exact hf
  obtain ⟨hm, hg⟩ := tlOf_mem hk
  have et := eTl_f (w.fl _ hm)
  unfold eKd
  rw [pdgetS, get_kd, hg, Option.map_some, et]
theorem sp_tl (d : DR rs) (w : WO rs 5 way) (hf : firm ∈ firms rs) : (∀ x ∈ (tlOf way firm).2, Nm x) ∧ (tlOf way firm).2.length ≤ 5 := by
  have hk : firm ∈ ksT way := by rw [w.ks]; exact hf
  obtain ⟨hm, hg⟩ := tlOf_mem hk
  exact ⟨fun x hx => nm_fs _ (sub56.subset (w.sb _ hm x hx)), w.ll _ hm⟩
theorem sorted_way (d : DR rs) (w : WO rs 5 way) : orU (orU sortedD sortedT) sortedK (eKd eTl way) = some (.lst ((sortS (firms rs)).map D.str)) := by
  have l4 := w.len d
  have := sorted_kd (f := eTl) (l := way) (by omega)
  rw [w.ks] at this
  rw [← this]
  rfl
theorem pick_firm (d : DR rs) (w : WO rs 5 way) (h : VP pot) : ∃ firm pot', b_lpick pot [.lst ((sortS (firms rs)).map D.str)] = .ok (.str firm, pot') ∧ firm ∈ firms rs ∧ VP pot' := by
  have lf : (sortS (firms rs)).length = rs.length := by rw [(sortS_perm _).length_eq]; unfold firms; rw [List.length_map]
  have l4 := d.l4
  obtain ⟨x, pot', e, hx, v⟩ := pickG (f := D.str) (l := sortS (firms rs)) h (fun z => by rw [z] at lf; exact d.v.ne (List.length_eq_zero_iff.mp lf.symm)) (by omega)
  exact ⟨x, pot', e, sortS_mem.mp hx, v⟩
theorem sp_turn (d : DR rs) (w : WO rs 5 way) (hf : firm ∈ firms rs) (h : VP pot) (k0 : 0 ≤ k) (k9 : k < 9) : ∃ told pot', s_lspoilt_3 (SP rs way way pot firm k) = .nx (SP rs way told pot' firm k) ∧ VT told ∧ VP pot' := by
  have g := sp_get d w hf
  obtain ⟨tn, tl⟩ := sp_tl d w hf
  have l4 := w.len d
  have vt := w.vt d (by decide)
  have nf := nm_hs _ (d.hs _ hf)
  have hl : way.length < 100000 := by omega
  have hkk : ∀ pot, eVar 4 (SP rs way way pot firm k) = .ok (.str firm, SP rs way way pot firm k) := fun pot => by simp
  have lm : ((tlOf way firm).2.map D.str).length = (tlOf way firm).2.length := List.length_map ..
  have cs : k < 2 ∨ k = 2 ∨ k = 3 ∨ k = 4 ∨ k = 5 ∨ k = 6 ∨ k = 7 ∨ k = 8 := by omega
  rcases cs with c | rfl | rfl | rfl | rfl | rfl | rfl | rfl
  · obtain ⟨y, pot', e, hy, v'⟩ := pickG (f := D.str) (l := fs6) h (by decide) (by decide)
    refine ⟨putT way firm (false, (tlOf way firm).2 ++ [y]), pot', ?_, vt_put vt (by omega) nf.ok nf.sh ?_ (by simp; omega), v'⟩
    · unfold s_lspoilt_3
      simp [c]
      have e6 : (tlOf way firm).2.length + 1 ≤ 100000 := by omega
      refine dput_kd (t := (false, (tlOf way firm).2 ++ [y])) ?_ (hkk pot') hl
      simp [fs6] at e
      simp [g, e, eTl, e6]
    · intro x hx
      rcases List.mem_append.mp hx with z | z
      · exact tn x z
      · rw [List.mem_singleton.mp z]
        exact nm_fs _ hy
  · refine ⟨putT way firm (false, (tlOf way firm).2.reverse), pot, ?_, vt_put vt (by omega) nf.ok nf.sh (fun x hx => tn x (List.mem_reverse.mp hx)) (by simp; omega), h⟩
    unfold s_lspoilt_3 s_lspoilt_3_e_1
    simp
    refine dput_kd (t := (false, (tlOf way firm).2.reverse)) ?_ (hkk pot) hl
    simp [g, eTl]
  · refine ⟨putT way firm (true, (tlOf way firm).2), pot, ?_, vt_put vt (by omega) nf.ok nf.sh tn (by simp; omega), h⟩
    unfold s_lspoilt_3 s_lspoilt_3_e_1 s_lspoilt_3_e_1_e_1
    simp
    refine dput_kd (t := (true, (tlOf way firm).2)) ?_ (hkk pot) hl
    simp [g, eTl]
  · refine ⟨way.filter fun q => decide (q.1 ≠ firm), pot, ?_, vt_drop _ vt, h⟩
    have hk : firm ∈ ksT way := by rw [w.ks]; exact hf
    obtain ⟨hm, hg⟩ := tlOf_mem hk
    unfold s_lspoilt_3 s_lspoilt_3_e_1 s_lspoilt_3_e_1_e_1 s_lspoilt_3_e_1_e_1_e_1
    unfold eDPop isDkAt SP eKd
    simp [get_kd, hg, drop_kd]
  · refine ⟨putT way "qq" (false, []), pot, ?_, vt_put vt (by omega) (by decide +kernel) (by decide +kernel) (by simp) (by simp), h⟩
    unfold s_lspoilt_3 s_lspoilt_3_e_1 s_lspoilt_3_e_1_e_1 s_lspoilt_3_e_1_e_1_e_1 s_lspoilt_3_e_1_e_1_e_1_e_1
    simp
    refine dput_kd (t := (false, [])) ?_ (by simp) hl
    simp [eTl]
  · refine ⟨putT way firm (false, (tlOf way firm).2.tail), pot, ?_, vt_put vt (by omega) nf.ok nf.sh (fun x hx => tn x (List.mem_of_mem_tail hx)) (by simp; omega), h⟩
    unfold s_lspoilt_3 s_lspoilt_3_e_1 s_lspoilt_3_e_1_e_1 s_lspoilt_3_e_1_e_1_e_1 s_lspoilt_3_e_1_e_1_e_1_e_1 s_lspoilt_3_e_1_e_1_e_1_e_1_e_1
    simp
    refine dput_kd (t := (false, (tlOf way firm).2.tail)) ?_ (hkk pot) hl
    simp [g, eTl, cut_from1]
  · obtain ⟨f2, pot', e, h2, v'⟩ := pick_firm d w h
    have g2 := sp_get d w h2
    obtain ⟨tn2, tl2⟩ := sp_tl d w h2
    have nn : ∀ x ∈ (tlOf way firm).2 ++ (tlOf way f2).2, Nm x := fun x hx => by
      rcases List.mem_append.mp hx with z | z
      · exact tn x z
      · exact tn2 x z
    have s1 := sortM (strsOk nn) (by simp; omega)
    have s2 := sorted_way d w
    simp only [porU] at s2
    refine ⟨putT way firm (false, sortS ((tlOf way firm).2 ++ (tlOf way f2).2)), pot', ?_, vt_put vt (by omega) nf.ok nf.sh (fun x hx => nn x (sortS_mem.mp hx)) (by rw [(sortS_perm _).length_eq]; simp; omega), v'⟩
    unfold s_lspoilt_3 s_lspoilt_3_e_1 s_lspoilt_3_e_1_e_1 s_lspoilt_3_e_1_e_1_e_1 s_lspoilt_3_e_1_e_1_e_1_e_1 s_lspoilt_3_e_1_e_1_e_1_e_1_e_1 s_lspoilt_3_e_1_e_1_e_1_e_1_e_1_e_1
    simp
    refine dput_kd (t := (false, sortS ((tlOf way firm).2 ++ (tlOf way f2).2))) ?_ (hkk pot') hl
    have e6 : (tlOf way firm).2.length + (tlOf way f2).2.length ≤ 100000 := by omega
    rw [List.map_append] at s1
    simp [g, g2, s2, e, e6, s1, eTl]
  · refine ⟨way, pot, ?_, vt, h⟩
    unfold s_lspoilt_3 s_lspoilt_3_e_1 s_lspoilt_3_e_1_e_1 s_lspoilt_3_e_1_e_1_e_1 s_lspoilt_3_e_1_e_1_e_1_e_1 s_lspoilt_3_e_1_e_1_e_1_e_1_e_1 s_lspoilt_3_e_1_e_1_e_1_e_1_e_1_e_1
    simp
theorem sp_e (d : DR rs) (w : WO rs 5 way) {x0 x1 x3 x4 x6 : Option Sl} : e_lspoilt_1 [x0, x1, some (.fz (eKd eTl way)), x3, x4, none, x6] =
    .ok (.lst (way.map fun q => D.tup [.str q.1, eTl q.2]), [x0, x1, some (.fz (eKd eTl way)), x3, x4, none, x6]) := by
  unfold e_lspoilt_1
  rw [elc_all (l := way) (f := fun q => D.str q.1) (z := fun q => D.tup [.str q.1, eTl q.2]) (r0 := [x0, x1, some (.fz (eKd eTl way)), x3, x4, none, x6])]
  · simp [restore, wipeE]
  · simp [eKd, keys_kd, ksT]
  · have := w.len d
    omega
  · intro q hq
    have g := w.get d hq
    have et := eTl_f (w.fl q hq)
    refine ⟨[x0, x1, some (.fz (eKd eTl way)), x3, x4, some (.fz (.str q.1)), x6], [x0, x1, some (.fz (eKd eTl way)), x3, x4, some (.fz (.str q.1)), x6], ?_, ?_, ?_⟩
    · simp [wipeE]
    · simp [eKd, get_kd, g, et]
    · simp [wipeE]
theorem lspoiltF (d : DR rs) (w : WO rs 5 way) (h : VP pot) : ∃ told pot', b_lspoilt pot [eRows rs, eKd eTl way] = .ok (eKd eTl told, pot') ∧ VT told ∧ VP pot' := by
  obtain ⟨firm, pot1, e1, hf, v1⟩ := pick_firm d w h
  obtain ⟨k, pot2, e2, k0, k9, v2⟩ := drawF (n := 9) v1 (by decide) (by decide)
  obtain ⟨told, pot3, e3, vt, v3⟩ := sp_turn d w hf v2 k0 k9
  refine ⟨told, pot3, ?_, vt, v3⟩
  have e0 := sp_e d w (x0 := some (.bo pot)) (x1 := some (.fz (eRows rs))) (x3 := none) (x4 := none) (x6 := none)
  have dt := dictT (f := eTl) (l := way) (by rw [w.ks]; exact d.v.nd)
  have du : orU dictD dictP (.lst (way.map fun q => D.tup [.str q.1, eTl q.2])) = some (eKd eTl way) := by
    simp only [porU]
    exact dt
  have s2 := sorted_way d w
  simp only [porU] at s2 du
  unfold b_lspoilt runB s_lspoilt
  unfold SP at e3
  simp [startB, e0, du, s2, e1, e2, e3]
  simp [eKd]
end
end K82

set_option Elab.async false
set_option linter.all false
set_option maxRecDepth 100000
set_option maxHeartbeats 4000000
namespace Dl
open PySem L2
theorem any_bl {α : Type} {l : List α} {p : α → Bool} : anyD (.lst (l.map fun x => D.bl (p x))) = some (.bl (l.any p)) := by
  have e : (l.map fun x => D.bl (p x)) = (l.map p).map D.bl := by simp
  unfold anyD
  simp only
  rw [e, bls]
  simp
end Dl
namespace K82
open PySem L2 Dl
section
variable {rs : List Row} {z : D} {kvs : List (Key × D)}
/-- none of the three -/
def Odd (rs : List Row) (z : D) : Prop := d_is_taking [eLots rs, z] = .ok (.bl false) ∧ d_is_choice [eLots rs, z] = .ok (.bl false) ∧ d_is_cut [eLots rs, z] = .ok (.bl false)
theorem taking_of (h : d_is_taking_by [eLots rs, .lst ((sortS (firms rs)).map D.str), z] = .ok (.bl false)) : d_is_taking [eLots rs, z] = .ok (.bl false) := by
  have ah := all_housesF (rs := rs)
  unfold d_is_taking runF s_is_taking
  unfold eLots at ah h ⊢
  simp [startE, ah, h]
theorem choice_of (h : d_is_taking [eLots rs, z] = .ok (.bl false)) : d_is_choice [eLots rs, z] = .ok (.bl false) := by
  unfold d_is_choice runF s_is_choice
  simp [startE, h]
theorem cut_of (h : d_are_names [z] = .ok (.bl false)) : d_is_cut [eLots rs, z] = .ok (.bl false) := by
  unfold d_is_cut runF s_is_cut s_is_cut_1
  simp [startE, h]
theorem taking_nd (h : isiB ["dict"] [] z = some (.bl false)) : d_is_taking [eLots rs, z] = .ok (.bl false) := by
  refine taking_of ?_
  unfold d_is_taking_by runF s_is_taking_by s_is_taking_by_1
  simp [startE, h]
theorem names_nl (h : d_is_list [z] = .ok (.bl false)) : d_are_names [z] = .ok (.bl false) := by
  unfold d_are_names runF s_are_names s_are_names_1
  simp [startE, h]
theorem odd_of (h1 : isiB ["dict"] [] z = some (.bl false)) (h2 : d_are_names [z] = .ok (.bl false)) : Odd rs z := ⟨taking_nd h1, choice_of (taking_nd h1), cut_of h2⟩
theorem byG_e (v : VR rs) {x0 x4 : Option Sl} : e_is_taking_by_1 [x0, some (.fz (.lst ((sortS (firms rs)).map D.str))), some (.fz (.dk kvs)), none, x4] =
    .ok (.lst ((sortS (firms rs)).map fun h => D.bl (getKD kvs (.inr h)).isSome), [x0, some (.fz (.lst ((sortS (firms rs)).map D.str))), some (.fz (.dk kvs)), none, x4]) := by
  have l1 : (sortS (firms rs)).length ≤ 8 := by rw [(sortS_perm _).length_eq]; unfold firms; rw [List.length_map]; exact v.le
  unfold e_is_taking_by_1
  rw [elc_all (l := sortS (firms rs)) (f := D.str) (z := fun h => D.bl (getKD kvs (.inr h)).isSome) (r0 := [x0, some (.fz (.lst ((sortS (firms rs)).map D.str))), some (.fz (.dk kvs)), none, x4])]
  · simp [restore, wipeE]
  · simp
  · omega
  · intro q hq
    refine ⟨[x0, some (.fz (.lst ((sortS (firms rs)).map D.str))), some (.fz (.dk kvs)), some (.fz (.str q)), x4], [x0, some (.fz (.lst ((sortS (firms rs)).map D.str))), some (.fz (.dk kvs)), some (.fz (.str q)), x4], ?_, ?_, ?_⟩
    · simp [wipeE]
    · simp
    · simp [wipeE]
/-- a dict that is no taking: a house lacks, or it has for each house a value that is no list of names -/
theorem tk_no (v : VR rs) (h : kvs.length ≠ rs.length ∨ (∃ h ∈ firms rs, getKD kvs (.inr h) = none) ∨ ∃ z, d_are_names [z] = .ok (.bl false) ∧ ∀ h ∈ firms rs, getKD kvs (.inr h) = some z) : d_is_taking [eLots rs, .dk kvs] = .ok (.bl false) := by
  refine taking_of ?_
  have l1 : (sortS (firms rs)).length = rs.length := by rw [(sortS_perm _).length_eq]; unfold firms; rw [List.length_map]
  have e := byG_e (kvs := kvs) v (x0 := some (.fz (eLots rs))) (x4 := none)
  have al := all_bl (l := sortS (firms rs)) (p := fun h => (getKD kvs (.inr h)).isSome)
  rw [all_perm (sortS_perm _)] at al
  unfold d_is_taking_by runF s_is_taking_by s_is_taking_by_1
  by_cases q : kvs.length = rs.length
  · have q' : (kvs.length : Int) = rs.length := by omega
    cases c : (firms rs).all fun h => (getKD kvs (.inr h)).isSome with
    | false =>
      rw [c] at al
      simp [startE, l1, e, al, q]
    | true =>
      rw [c] at al
      rcases h with h | ⟨x, hx, hn⟩ | ⟨z, hz, hv⟩
      · exact absurd q h
      · have := List.all_eq_true.mp c x hx
        rw [hn] at this
        cases this
      · have ne : sortS (firms rs) ≠ [] := fun z => by
          rw [z] at l1
          exact v.ne (List.length_eq_zero_iff.mp l1.symm)
        cases es : sortS (firms rs) with
        | nil => exact absurd es ne
        | cons x t =>
          have hx : x ∈ firms rs := sortS_mem.mp (by rw [es]; simp)
          have gx := hv x hx
          have nf : d_is_films_of [eLots rs, .str x, z] = .ok (.bl false) := by
            unfold d_is_films_of runF s_is_films_of s_is_films_of_1
            simp [startE, hz]
          rw [es] at e al l1
          simp [gx] at e al l1
          simp [startE, l1, e, al, q, s_is_taking_by_3, forD, s_is_taking_by_3_b, s_is_taking_by_3_1, gx, nf]
  · have q' : ¬ (kvs.length : Int) = rs.length := by omega
    simp [startE, l1, q, q']
theorem odd_dk (v : VR rs) (h : kvs.length ≠ rs.length ∨ (∃ h ∈ firms rs, getKD kvs (.inr h) = none) ∨ ∃ z, d_are_names [z] = .ok (.bl false) ∧ ∀ h ∈ firms rs, getKD kvs (.inr h) = some z) : Odd rs (.dk kvs) :=
  ⟨tk_no v h, choice_of (tk_no v h), cut_of (names_nl rfl)⟩
/-- a list with something that is no name -/
theorem names_no {x : D} (h : d_is_name [x] = .ok (.bl false)) : d_are_names [.lst [x]] = .ok (.bl false) := by
  have key : e_are_names_1 [some (.fz (.lst [x])), none] = .ok (.lst ([()].map fun _ => D.bl false), [some (.fz (.lst [x])), none]) := by
    unfold e_are_names_1
    rw [elc_all (l := [()]) (f := fun _ => x) (z := fun _ => D.bl false) (r0 := [some (.fz (.lst [x])), none])]
    · simp [restore, wipeE]
    · simp
    · decide
    · intro q hq
      refine ⟨[some (.fz (.lst [x])), some (.fz x)], [some (.fz (.lst [x])), some (.fz x)], ?_, ?_, ?_⟩
      · simp [wipeE]
      · simp [h]
      · simp [wipeE]
  have al := all_bl (l := [()]) (p := fun _ => false)
  have il : d_is_list [.lst [x]] = .ok (.bl true) := rfl
  simp at key al
  unfold d_are_names runF s_are_names s_are_names_1
  simp [startE, il, key, al]
theorem no_of {x : D} (h : isiB ["str"] [] x = some (.bl false)) : d_is_name [x] = .ok (.bl false) := by
  unfold d_is_name runF s_is_name s_is_name_1
  simp [startE, h]
theorem none_l : d_are_names [.lst [.non]] = .ok (.bl false) := names_no (no_of rfl)
theorem nm_qq : Nm "qq" := ⟨by kernel_rfl, by decide +kernel, by decide +kernel⟩
theorem qq_no (d : DR rs) : ("qq" : Str) ∉ firms rs := fun z => by
  have := d.hs _ z
  revert this
  decide +kernel
theorem cut_nil {sq : List D → D} (hsq : Sq sq) : d_is_cut [eLots rs, sq []] = .ok (.bl false) := by
  have an := are_namesF (sq := sq) (xs := []) hsq (by simp) (by simp)
  simp at an
  unfold d_is_cut runF s_is_cut s_is_cut_1
  rcases hsq with rfl | rfl <;> simp [startE, an]
theorem cut_qq (d : DR rs) : d_is_cut [eLots rs, .lst [.str "qq"]] = .ok (.bl false) := by
  have an := are_namesF (sq := D.lst) (xs := ["qq"]) (.inl rfl) (by simpa using nm_qq) (by simp)
  have so := sortM (a := ["qq"]) (by simpa using nm_qq.ok) (by simp)
  have s1 : sortS [("qq" : Str)] = [("qq" : Str)] := by
    have := sortS_perm [("qq" : Str)]
    exact List.perm_singleton.mp this
  rw [s1] at so
  have ne := (neM (a := ["qq"]) (b := ["qq"]) (by simpa using nm_qq.ok) (by simpa using nm_qq.ok)).1
  have ct := containsF (x := "qq") d.v
  have key : e_is_cut_2 [some (.fz (eLots rs)), some (.fz (.lst [.str "qq"])), none, none, none] = .ok (.lst ([()].map fun _ => D.bl false), [some (.fz (eLots rs)), some (.fz (.lst [.str "qq"])), none, none, none]) := by
    unfold e_is_cut_2
    rw [elc_all (l := [()]) (f := fun _ => .str "qq") (z := fun _ => D.bl false) (r0 := [some (.fz (eLots rs)), some (.fz (.lst [.str "qq"])), none, none, none])]
    · simp [restore, wipeE]
    · simp
    · decide
    · intro q hq
      refine ⟨[some (.fz (eLots rs)), some (.fz (.lst [.str "qq"])), some (.fz (.str "qq")), none, none], [some (.fz (eLots rs)), some (.fz (.lst [.str "qq"])), some (.fz (.str "qq")), none, none], ?_, ?_, ?_⟩
      · simp [wipeE]
      · have q := qq_no d
        rw [decide_eq_false q] at ct
        unfold eLots at ct ⊢
        simp [ct, toB]
      · simp [wipeE]
  have al := all_bl (l := [()]) (p := fun _ => false)
  simp at key al an so ne
  unfold d_is_cut runF s_is_cut s_is_cut_1 s_is_cut_2
  simp [startE, an, so, ne, key, al]
end
end K82

set_option Elab.async false
set_option linter.all false
set_option maxRecDepth 100000
set_option maxHeartbeats 4000000
namespace K82
open PySem L2 Dl
section
variable {rs : List Row}
abbrev houses (rs : List Row) : List Str := sortS (firms rs)
def odd1 (rs : List Row) : List D := [.non, .bl true, .int 0, .str "x", .str "", .lst [.non], .tup [], .dk [], .lst [.lst []], .dk [(.inr "qq", .lst [])], .dk [(.inl 0, .lst [])], .lst [.tup [.str "x", .lst []]], .lst ((houses rs).map D.str ++ (houses rs).map D.str), .lst [.str "qq"]]
def oddK (rs : List Row) (z : D) : D := eKd (fun _ : Unit => z) ((houses rs).map fun h => (h, ()))
def odds (rs : List Row) : List D := odd1 rs ++ [oddK rs .non, oddK rs (.str "f"), oddK rs (.lst [.non])]
theorem odd_k (d : DR rs) {z : D} (h : d_are_names [z] = .ok (.bl false)) : Odd rs (oddK rs z) := by
  refine odd_dk d.v (.inr (.inr ⟨z, h, fun x hx => ?_⟩))
  rw [get_kd]
  obtain ⟨a, ha⟩ := getT_some (l := (houses rs).map fun h => (h, ())) (x := x) |>.mpr (by
    unfold ksT
    rw [List.map_map]
    exact List.mem_map.mpr ⟨x, sortS_mem.mpr hx, rfl⟩)
  rw [ha]
  rfl
theorem odd_all (d : DR rs) : ∀ z ∈ odds rs, Odd rs z := by
  have ne : firms rs ≠ [] := fun z => d.v.ne (by unfold firms at z; simpa using z)
  obtain ⟨h0, hh0⟩ := List.exists_mem_of_ne_nil _ ne
  have hq0 : ("qq" : Str) ≠ h0 := fun z => qq_no d (by rw [z]; exact hh0)
  intro z hz
  unfold odds odd1 at hz
  rcases List.mem_append.mp hz with hz | hz
  · simp only [List.mem_cons, List.not_mem_nil, or_false] at hz
    rcases hz with rfl | rfl | rfl | rfl | rfl | rfl | rfl | rfl | rfl | rfl | rfl | rfl | rfl | rfl
    · exact odd_of rfl (names_nl rfl)
    · exact odd_of rfl (names_nl rfl)
    · exact odd_of rfl (names_nl rfl)
    · exact odd_of rfl (names_nl rfl)
    · exact odd_of rfl (names_nl rfl)
    · exact odd_of rfl none_l
    · exact ⟨taking_nd rfl, choice_of (taking_nd rfl), cut_nil (.inr rfl)⟩
    · exact odd_dk d.v (.inl fun z => d.v.ne (List.length_eq_zero_iff.mp z.symm))
    · exact odd_of rfl (names_no (no_of rfl))
    · refine odd_dk d.v (.inr (.inl ⟨h0, hh0, ?_⟩))
      simp [getKD, hq0]
    · refine odd_dk d.v (.inr (.inl ⟨h0, hh0, ?_⟩))
      simp [getKD]
    · exact odd_of rfl (names_no (no_of rfl))
    · refine odd_of rfl ?_
      have lf : (houses rs).length = rs.length := by rw [(sortS_perm _).length_eq]; unfold firms; rw [List.length_map]
      have l4 := d.l4
      have nm : ∀ x ∈ houses rs, Nm x := fun x hx => nm_hs _ (d.hs _ (sortS_mem.mp hx))
      have an := are_namesF (sq := D.lst) (xs := houses rs ++ houses rs) (.inl rfl) (fun x hx => by
        rcases List.mem_append.mp hx with z | z <;> exact nm x z) (by simp; omega)
      rw [← List.map_append, an, decide_eq_false]
      intro nd
      rw [List.nodup_append] at nd
      exact nd.2.2 h0 (sortS_mem.mpr hh0) h0 (sortS_mem.mpr hh0) rfl
    · exact ⟨taking_nd rfl, choice_of (taking_nd rfl), cut_qq d⟩
  · simp only [List.mem_cons, List.not_mem_nil, or_false] at hz
    rcases hz with rfl | rfl | rfl
    · exact odd_k d (names_nl rfl)
    · exact odd_k d (names_nl rfl)
    · exact odd_k d none_l
theorem ok_e1 {hs : List Str} (hl : hs.length ≤ 1000) {x0 x2 x4 : Option Sl} : e_lodd_right_1 [x0, some (.fz (.lst (hs.map D.str))), x2, none, x4] = .ok (.lst ((hs.map fun h => (h, ())).map fun q => D.tup [.str q.1, (fun _ : Unit => D.non) q.2]), [x0, some (.fz (.lst (hs.map D.str))), x2, none, x4]) := by
  unfold e_lodd_right_1
  rw [elc_all (l := hs) (f := D.str) (z := fun h => D.tup [.str h, .non]) (r0 := [x0, some (.fz (.lst (hs.map D.str))), x2, none, x4])]
  · simp [restore, wipeE]
  · simp
  · omega
  · intro q hq
    refine ⟨[x0, some (.fz (.lst (hs.map D.str))), x2, some (.fz (.str q)), x4], [x0, some (.fz (.lst (hs.map D.str))), x2, some (.fz (.str q)), x4], ?_, ?_, ?_⟩ <;> simp [wipeE]
theorem ok_e2 {hs : List Str} (hl : hs.length ≤ 1000) {x0 x2 x4 : Option Sl} : e_lodd_right_2 [x0, some (.fz (.lst (hs.map D.str))), x2, none, x4] = .ok (.lst ((hs.map fun h => (h, ())).map fun q => D.tup [.str q.1, (fun _ : Unit => D.str "f") q.2]), [x0, some (.fz (.lst (hs.map D.str))), x2, none, x4]) := by
  unfold e_lodd_right_2
  rw [elc_all (l := hs) (f := D.str) (z := fun h => D.tup [.str h, .str "f"]) (r0 := [x0, some (.fz (.lst (hs.map D.str))), x2, none, x4])]
  · simp [restore, wipeE]
  · simp
  · omega
  · intro q hq
    refine ⟨[x0, some (.fz (.lst (hs.map D.str))), x2, some (.fz (.str q)), x4], [x0, some (.fz (.lst (hs.map D.str))), x2, some (.fz (.str q)), x4], ?_, ?_, ?_⟩ <;> simp [wipeE]
theorem ok_e3 {hs : List Str} (hl : hs.length ≤ 1000) {x0 x2 x4 : Option Sl} : e_lodd_right_3 [x0, some (.fz (.lst (hs.map D.str))), x2, none, x4] = .ok (.lst ((hs.map fun h => (h, ())).map fun q => D.tup [.str q.1, (fun _ : Unit => D.lst [.non]) q.2]), [x0, some (.fz (.lst (hs.map D.str))), x2, none, x4]) := by
  unfold e_lodd_right_3
  rw [elc_all (l := hs) (f := D.str) (z := fun h => D.tup [.str h, .lst [.non]]) (r0 := [x0, some (.fz (.lst (hs.map D.str))), x2, none, x4])]
  · simp [restore, wipeE]
  · simp
  · omega
  · intro q hq
    refine ⟨[x0, some (.fz (.lst (hs.map D.str))), x2, some (.fz (.str q)), x4], [x0, some (.fz (.lst (hs.map D.str))), x2, some (.fz (.str q)), x4], ?_, ?_, ?_⟩ <;> simp [wipeE]
theorem ok_e4 {os : List D} (ho : ∀ z ∈ os, Odd rs z) (hl : os.length ≤ 1000) {x1 x3 : Option Sl} : e_lodd_right_4 [some (.fz (eLots rs)), x1, some (.ow (.lst os)), x3, none] = .ok (.lst (os.map fun _ => D.bl false), [some (.fz (eLots rs)), x1, some (.fz (.lst os)), x3, none]) := by
  unfold e_lodd_right_4
  rw [elc_all (l := os) (f := fun d => d) (z := fun _ => D.bl false) (r0 := [some (.fz (eLots rs)), x1, some (.fz (.lst os)), x3, none])]
  · simp [restore, wipeE]
  · simp
  · omega
  · intro q hq
    obtain ⟨h1, h2, h3⟩ := ho q hq
    refine ⟨[some (.fz (eLots rs)), x1, some (.fz (.lst os)), x3, some (.fz q)], [some (.fz (eLots rs)), x1, some (.fz (.lst os)), x3, some (.fz q)], ?_, ?_, ?_⟩
    · simp [wipeE]
    · simp [h1, h2, h3]
    · simp [wipeE]
theorem dictU {hs : List Str} (nd : hs.Nodup) (z : D) : orU dictD dictP (.lst ((hs.map fun h => (h, ())).map fun q => D.tup [.str q.1, (fun _ : Unit => z) q.2])) = some (eKd (fun _ : Unit => z) (hs.map fun h => (h, ()))) := by
  have dt := dictT (f := fun _ : Unit => z) (l := hs.map fun h => (h, ())) (by
    unfold ksT
    rw [List.map_map]
    have : ((fun q : Str × Unit => q.1) ∘ fun h : Str => (h, ())) = id := rfl
    rw [this, List.map_id]
    exact nd)
  simp only [porU]
  exact dt
theorem lodd_rightF (d : DR rs) : d_lodd_right [eLots rs, .lst ((houses rs).map D.str)] = .ok (.bl true) := by
  have lf : (houses rs).length = rs.length := by rw [(sortS_perm _).length_eq]; unfold firms; rw [List.length_map]
  have l4 := d.l4
  have nd : (houses rs).Nodup := (sortS_perm _).nodup_iff.mpr d.v.nd
  have s1 : s_lodd_right_1 [some (.fz (eLots rs)), some (.fz (.lst ((houses rs).map D.str))), none, none, none] = .nx [some (.fz (eLots rs)), some (.fz (.lst ((houses rs).map D.str))), some (.ow (.lst (odd1 rs))), none, none] := by
    have c1 : (houses rs).length + (houses rs).length ≤ 100000 := by omega
    unfold s_lodd_right_1 odd1
    simp [c1]
  have lo : (odd1 rs).length = 14 := rfl
  have e1 := fun x2 => ok_e1 (hs := houses rs) (by omega) (x0 := some (.fz (eLots rs))) (x2 := x2) (x4 := none)
  have e2 := fun x2 => ok_e2 (hs := houses rs) (by omega) (x0 := some (.fz (eLots rs))) (x2 := x2) (x4 := none)
  have e3 := fun x2 => ok_e3 (hs := houses rs) (by omega) (x0 := some (.fz (eLots rs))) (x2 := x2) (x4 := none)
  have u1 := dictU nd .non
  have u2 := dictU nd (.str "f")
  have u3 := dictU nd (.lst [.non])
  have e4 := ok_e4 (os := odds rs) (odd_all d) (by unfold odds; simp [lo]) (x1 := some (.fz (.lst ((houses rs).map D.str)))) (x3 := none)
  have an := any_bl (l := odds rs) (p := fun _ => false)
  have an2 : (odds rs).any (fun _ => false) = false := by simp
  rw [an2] at an
  have ap : ∀ (f : En → Res (D × En)) (ds : List D) (z : D) (r : En), ds.length < 100 → r = [some (.fz (eLots rs)), some (.fz (.lst ((houses rs).map D.str))), some (.ow (.lst ds)), none, none] → f r = .ok (z, r) → sAppend 2 f r = .nx [some (.fz (eLots rs)), some (.fz (.lst ((houses rs).map D.str))), some (.ow (.lst (ds ++ [z]))), none, none] := by
    rintro f ds z r hd rfl hf
    have hd' : ds.length < 100000 := by omega
    simp [hf, hd']
  have eu : ∀ (e : En → Res (D × En)) (r : En) (z w : D), e r = .ok (z, r) → orU dictD dictP z = some w → eUn (orU dictD dictP) (bOf e) r = .ok (w, r) := by
    intro e r z w h1 h2
    simp only [pun, pbof, h1, pbind_ok, pgetF, h2, pliftS]
  have a1 := ap (eUn (orU dictD dictP) (bOf e_lodd_right_1)) (odd1 rs) (oddK rs .non) _ (by rw [lo]; decide) rfl (eu _ _ _ _ (e1 _) u1)
  have a2 := ap (eUn (orU dictD dictP) (bOf e_lodd_right_2)) (odd1 rs ++ [oddK rs .non]) (oddK rs (.str "f")) _ (by simp [lo]) rfl (eu _ _ _ _ (e2 _) u2)
  have a3 := ap (eUn (orU dictD dictP) (bOf e_lodd_right_3)) (odd1 rs ++ [oddK rs .non] ++ [oddK rs (.str "f")]) (oddK rs (.lst [.non])) _ (by simp [lo]) rfl (eu _ _ _ _ (e3 _) u3)
  have eo : odd1 rs ++ [oddK rs .non] ++ [oddK rs (.str "f")] ++ [oddK rs (.lst [.non])] = odds rs := by unfold odds; simp
  rw [eo] at a3
  have E : s_lodd_right [some (.fz (eLots rs)), some (.fz (.lst ((houses rs).map D.str))), none, none, none] = .rt (.bl true) [some (.fz (eLots rs)), some (.fz (.lst ((houses rs).map D.str))), some (.fz (.lst (odds rs))), none, none] := by
    unfold s_lodd_right
    rw [pseq, s1]
    simp only
    rw [pseq, a1]
    simp only
    rw [pseq, a2]
    simp only
    rw [pseq, a3]
    simp only
    rw [pret, pnot, pun, pbof, e4]
    simp [an]
  unfold d_lodd_right runF
  simp [startE, E]
end
end K82

set_option Elab.async false
set_option linter.all false
set_option maxRecDepth 100000
set_option maxHeartbeats 4000000
namespace K82
open PySem L2 Dl
section
variable {rs : List Row} {ts : List (Str × Tl)} {ws : List Way} {pot : D}
theorem VT.rev (v : VT ts) : VT ts.reverse where
  nd := by
    unfold ksT
    rw [List.map_reverse]
    exact (List.reverse_perm _).nodup_iff.mpr v.nd
  le := by rw [List.length_reverse]; exact v.le
  nm := fun q hq => v.nm q (List.mem_reverse.mp hq)
  ll := fun q hq => v.ll q (List.mem_reverse.mp hq)
  ko := fun q hq => v.ko q (List.mem_reverse.mp hq)
  ks := fun q hq => v.ks q (List.mem_reverse.mp hq)
theorem rt_e1 (hl : rs.length ≤ 8) {x0 x2 x3 x4 x6 x7 x8 x9 x10 : Option Sl} : e_lright_1 [x0, some (.fz (eRows rs)), x2, x3, x4, none, x6, x7, x8, x9, x10] = .ok (.lst ((firms rs).map D.str), [x0, some (.fz (eRows rs)), x2, x3, x4, none, x6, x7, x8, x9, x10]) := by
  unfold e_lright_1
  rw [elc_all (l := rs) (f := eRow) (z := fun r => D.str r.1) (r0 := [x0, some (.fz (eRows rs)), x2, x3, x4, none, x6, x7, x8, x9, x10])]
  · simp [restore, wipeE, firms]
  · simp [eRows]
  · omega
  · intro q hq
    refine ⟨[x0, some (.fz (eRows rs)), x2, x3, x4, some (.fz (eRow q)), x6, x7, x8, x9, x10], [x0, some (.fz (eRows rs)), x2, x3, x4, some (.fz (eRow q)), x6, x7, x8, x9, x10], ?_, ?_, ?_⟩
    · simp [wipeE]
    · simp [eRow]
    · simp [wipeE]
theorem rt_e2 (v : VT ts) {x0 x1 x2 x3 x4 x5 x6 x7 x10 : Option Sl} : e_lright_2 [x0, x1, x2, x3, x4, x5, x6, x7, some (.fz (eKd eTl ts)), none, x10] = .ok (.lst (ts.reverse.map fun q => D.tup [.str q.1, eTl q.2]), [x0, x1, x2, x3, x4, x5, x6, x7, some (.fz (eKd eTl ts)), none, x10]) := by
  unfold e_lright_2
  rw [elc_all (l := ts.reverse) (f := fun q => D.str q.1) (z := fun q => D.tup [.str q.1, eTl q.2]) (r0 := [x0, x1, x2, x3, x4, x5, x6, x7, some (.fz (eKd eTl ts)), none, x10])]
  · simp [restore, wipeE]
  · simp [eKd, keys_kd, ksT]
  · have := v.le
    rw [List.length_reverse]
    omega
  · intro q hq
    have g : getT ts q.1 = some q.2 := getT_of (l := ts) (x := q.1) (a := q.2) (List.mem_reverse.mp hq) v.nd
    refine ⟨[x0, x1, x2, x3, x4, x5, x6, x7, some (.fz (eKd eTl ts)), some (.fz (.str q.1)), x10], [x0, x1, x2, x3, x4, x5, x6, x7, some (.fz (eKd eTl ts)), some (.fz (.str q.1)), x10], ?_, ?_, ?_⟩
    · simp [wipeE]
    · simp [eKd, get_kd, g]
    · simp [wipeE]
theorem rt_e3 (h : VP pot) {hs : List Str} (hl : hs.length ≤ 100) {x1 x2 x3 x5 x6 x7 x8 x10 : Option Sl} : ∃ (m : List Str) (pot' : D), m.Sublist hs ∧ e_lright_3 [some (.bo pot), x1, x2, x3, some (.fz (.lst (hs.map D.str))), x5, x6, x7, x8, none, x10] = .ok (.lst (m.map D.str), [some (.bo pot'), x1, x2, x3, some (.fz (.lst (hs.map D.str))), x5, x6, x7, x8, none, x10]) ∧ VP pot' := by
  have hs0 : iSeq (eVar 4) [some (.bo pot), x1, x2, x3, some (.fz (.lst (hs.map D.str))), x5, x6, x7, x8, none, x10] = .ok (hs.map D.str, [some (.bo pot), x1, x2, x3, some (.fz (.lst (hs.map D.str))), x5, x6, x7, x8, none, x10]) := by simp
  unfold e_lright_3
  obtain ⟨m, r', k1, k2, pot', v, rfl⟩ := elc_sub (f := D.str) (vs := [9]) (I := fun r => ∃ pot', VP pot' ∧ r = [some (.bo pot'), x1, x2, x3, some (.fz (.lst (hs.map D.str))), x5, x6, x7, x8, none, x10]) hs0 (by omega) ⟨pot, h, by simp [wipeE]⟩ (g := gNm 9) (t := tOfE (eBin eqD (bOf (eCallB b_ldraw 0 (aCons (eC (.int 2)) aNil))) (bOf (eC (.int 0))))) (e := eVar 9) (by
    rintro x hx r ⟨pot', v, rfl⟩
    obtain ⟨k, pot2, e, h0, h1, vp⟩ := drawF (n := 2) v (by decide) (by decide)
    refine ⟨[some (.bo pot'), x1, x2, x3, some (.fz (.lst (hs.map D.str))), x5, x6, x7, x8, some (.fz (.str x)), x10], decide (k = 0), [some (.bo pot2), x1, x2, x3, some (.fz (.lst (hs.map D.str))), x5, x6, x7, x8, some (.fz (.str x)), x10], by simp, by simp [e], fun _ => ⟨_, by simp; rfl, pot2, vp, by simp [wipeE]⟩, fun _ => ⟨pot2, vp, by simp [wipeE]⟩⟩)
  exact ⟨m, pot', k1, by rw [k2]; simp [restore], v⟩
/-- one turn -/
theorem rt_turn (d : DR rs) (wn : ws ≠ []) (wl : ws.length ≤ 3125) (wo : ∀ w ∈ ws, WO rs 5 w) (h : VP pot) {x6 x7 x8 x10 : Option Sl} :
    ∃ (pot' : D) (y7 y8 y10 : Option Sl), s_lright_4_b [some (.bo pot), some (.fz (eRows rs)), some (.fz (eLots rs)), some (.fz (.lst (ws.map (eKd eTl)))), some (.fz (.lst ((houses rs).map D.str))), none, x6, x7, x8, none, x10] =
      .nx [some (.bo pot'), some (.fz (eRows rs)), some (.fz (eLots rs)), some (.fz (.lst (ws.map (eKd eTl)))), some (.fz (.lst ((houses rs).map D.str))), none, x6, y7, y8, none, y10] ∧ VP pot' := by
  obtain ⟨way, pot1, e1, hw, v1⟩ := pickG (f := eKd eTl) (l := ws) h wn (by omega)
  obtain ⟨told, pot2, e2, vt, v2⟩ := lspoiltF d (wo way hw) v1
  have j1 := ljudgedF d.v ((wo way hw).vt d (by decide))
  have j2 := ljudgedF d.v vt
  have j3 := ljudgedF d.v vt.rev
  have e3 := rt_e2 vt (x0 := some (.bo pot2)) (x1 := some (.fz (eRows rs))) (x2 := some (.fz (eLots rs))) (x3 := some (.fz (.lst (ws.map (eKd eTl))))) (x4 := some (.fz (.lst ((houses rs).map D.str)))) (x5 := none) (x6 := x6) (x7 := some (.fz (eKd eTl way))) (x10 := x10)
  have du : orU dictD dictP (.lst (told.reverse.map fun q => D.tup [.str q.1, eTl q.2])) = some (eKd eTl told.reverse) := by
    simp only [porU]
    exact dictT (f := eTl) (l := told.reverse) vt.rev.nd
  have lf : (houses rs).length = rs.length := by rw [(sortS_perm _).length_eq]; unfold firms; rw [List.length_map]
  have l4 := d.l4
  have nd : (houses rs).Nodup := (sortS_perm _).nodup_iff.mpr d.v.nd
  obtain ⟨m, pot3, k1, e4, v3⟩ := rt_e3 v2 (hs := houses rs) (by omega) (x1 := some (.fz (eRows rs))) (x2 := some (.fz (eLots rs))) (x3 := some (.fz (.lst (ws.map (eKd eTl))))) (x5 := none) (x6 := x6) (x7 := some (.fz (eKd eTl way))) (x8 := some (.fz (eKd eTl told))) (x10 := x10)
  have ml := k1.length_le
  have c1 := lcut_rightF (hs := m) d.v (by omega) (fun x hx => sortS_mem.mp (k1.subset hx)) (k1.nodup nd)
  have c2 := lcut_rightF (hs := m.reverse) d.v (by rw [List.length_reverse]; omega) (fun x hx => sortS_mem.mp (k1.subset (List.mem_reverse.mp hx))) ((List.reverse_perm _).nodup_iff.mpr (k1.nodup nd))
  rw [List.map_reverse] at c2
  refine ⟨pot3, some (.fz (eKd eTl way)), some (.fz (eKd eTl told)), some (.fz (.lst (m.map D.str))), ?_, v3⟩
  simp only [porU] at du
  have t3 : s_lright_4_3 [some (.bo pot2), some (.fz (eRows rs)), some (.fz (eLots rs)), some (.fz (.lst (ws.map (eKd eTl)))), some (.fz (.lst ((houses rs).map D.str))), none, x6, some (.fz (eKd eTl way)), some (.fz (eKd eTl told)), none, x10] = .nx [some (.bo pot2), some (.fz (eRows rs)), some (.fz (eLots rs)), some (.fz (.lst (ws.map (eKd eTl)))), some (.fz (.lst ((houses rs).map D.str))), none, x6, some (.fz (eKd eTl way)), some (.fz (eKd eTl told)), none, x10] := by
    unfold s_lright_4_3
    simp [j1, j2]
  have t4 : s_lright_4_4 [some (.bo pot2), some (.fz (eRows rs)), some (.fz (eLots rs)), some (.fz (.lst (ws.map (eKd eTl)))), some (.fz (.lst ((houses rs).map D.str))), none, x6, some (.fz (eKd eTl way)), some (.fz (eKd eTl told)), none, x10] = .nx [some (.bo pot2), some (.fz (eRows rs)), some (.fz (eLots rs)), some (.fz (.lst (ws.map (eKd eTl)))), some (.fz (.lst ((houses rs).map D.str))), none, x6, some (.fz (eKd eTl way)), some (.fz (eKd eTl told)), none, x10] := by
    unfold s_lright_4_4
    simp only [psif, ptnot, ptofe, pcall, pacons, pvar, List.getElem?_cons_succ, List.getElem?_cons_zero, pbind_ok, pun, pbof, e3, pgetF, porU, du, pliftS, panil]
    simp [j3]
  have t6 : s_lright_4_6 [some (.bo pot3), some (.fz (eRows rs)), some (.fz (eLots rs)), some (.fz (.lst (ws.map (eKd eTl)))), some (.fz (.lst ((houses rs).map D.str))), none, x6, some (.fz (eKd eTl way)), some (.fz (eKd eTl told)), none, some (.fz (.lst (m.map D.str)))] = .nx [some (.bo pot3), some (.fz (eRows rs)), some (.fz (eLots rs)), some (.fz (.lst (ws.map (eKd eTl)))), some (.fz (.lst ((houses rs).map D.str))), none, x6, some (.fz (eKd eTl way)), some (.fz (eKd eTl told)), none, some (.fz (.lst (m.map D.str)))] := by
    unfold s_lright_4_6
    simp [c1, c2]
  unfold s_lright_4_b
  simp [e1, e2, t3, t4, e4, t6]
theorem rightF (h : VP pot) : ∃ pot', b_lright pot [] = .ok (.bl true, pot') := by
  obtain ⟨rs, pot1, e1, d, v1⟩ := lrowsF h
  obtain ⟨pot2, e2, v2⟩ := llotsF v1 d.v
  obtain ⟨ws, e3, wn, wl, wo⟩ := ltakingsF d
  have e4 := rt_e1 (rs := rs) d.v.le (x0 := some (.bo pot2)) (x2 := some (.fz (eLots rs))) (x3 := some (.fz (.lst (ws.map (eKd eTl))))) (x4 := none) (x6 := none) (x7 := none) (x8 := none) (x9 := none) (x10 := none)
  have l4 := d.l4
  have s1 := sortM (a := firms rs) (firms_ok d.v) (by unfold firms; rw [List.length_map]; omega)
  obtain ⟨r', e5, pot3, y6, y7, y8, y10, v3, rfl⟩ := for_ind (g := gNm 6) (b := s_lright_4_b) (I := fun _ r => ∃ (pot' : D) (y6 y7 y8 y10 : Option Sl), VP pot' ∧ r = [some (.bo pot'), some (.fz (eRows rs)), some (.fz (eLots rs)), some (.fz (.lst (ws.map (eKd eTl)))), some (.fz (.lst ((houses rs).map D.str))), none, y6, y7, y8, none, y10])
    (ds := rngD 0 12) (r := [some (.bo pot2), some (.fz (eRows rs)), some (.fz (eLots rs)), some (.fz (.lst (ws.map (eKd eTl)))), some (.fz (.lst ((houses rs).map D.str))), none, none, none, none, none, none]) ⟨pot2, _, _, _, _, v2, rfl⟩ (by
    rintro q qs r ⟨pot', y6, y7, y8, y10, v, rfl⟩
    obtain ⟨pot4, z7, z8, z10, t, v4⟩ := rt_turn d wn wl wo v (x6 := some (.fz q)) (x7 := y7) (x8 := y8) (x10 := y10)
    exact ⟨_, _, rfl, .inl t, pot4, _, _, _, _, v4, rfl⟩)
  have o1 := lodd_rightF d
  have o2 := cut_nil (rs := rs) (sq := D.lst) (.inl rfl)
  have hf : s_lright_4 [some (.bo pot2), some (.fz (eRows rs)), some (.fz (eLots rs)), some (.fz (.lst (ws.map (eKd eTl)))), some (.fz (.lst ((houses rs).map D.str))), none, none, none, none, none, none] = .nx [some (.bo pot3), some (.fz (eRows rs)), some (.fz (eLots rs)), some (.fz (.lst (ws.map (eKd eTl)))), some (.fz (.lst ((houses rs).map D.str))), none, y6, y7, y8, none, y10] := by
    unfold s_lright_4
    rw [psfor, irg1_ok (n := 12) (r' := [some (.bo pot2), some (.fz (eRows rs)), some (.fz (eLots rs)), some (.fz (.lst (ws.map (eKd eTl)))), some (.fz (.lst ((houses rs).map D.str))), none, none, none, none, none, none]) (by simp) (by decide) (by decide)]
    exact e5
  refine ⟨pot3, ?_⟩
  unfold b_lright runB s_lright
  simp [startB, e1, e2, e3, e4, s1, hf, o1, o2]
end
theorem pure_law (ns : List Int) (hl : ns.length ≤ 63) : d_law [.scr ns] = .ok (.bl true) := by
  have el : lenD (.scr ns) = some (.int ns.length) := rfl
  generalize hn : (max 1 (min ns.length 4)) = n
  have n4 : n ≤ 4 := by omega
  have em : (if (if (4 : Int) < ns.length then (4 : Int) else ns.length) > 1 then (if (4 : Int) < ns.length then (4 : Int) else ns.length) else 1) = (n : Int) := by
    subst hn
    split <;> split <;> omega
  have e : e_law_1 [some (.fz (.scr ns)), none] = .ok (.lst ((List.range n).map fun _ => D.bl true), [some (.fz (.scr ns)), none]) := by
    unfold e_law_1
    rw [elc_all (l := List.range n) (f := fun i : Nat => D.int (0 + (i : Int))) (z := fun _ => D.bl true) (r0 := [some (.fz (.scr ns)), none])]
    · simp [restore, wipeE]
    · rw [irg1_ok (n := n) (r' := [some (.fz (.scr ns)), none]) ?_ (by omega) (by omega)]
      · rfl
      · simp [el, min2D, max2D]
        exact em
    · rw [List.length_range]; omega
    · intro i hi
      have hi' : i < n := List.mem_range.mp hi
      obtain ⟨pot, e1, v⟩ := potF (ns := ns) (k := i) (by omega)
      obtain ⟨pot', e2⟩ := rightF v
      refine ⟨[some (.fz (.scr ns)), some (.fz (.int (0 + (i : Int))))], [some (.fz (.scr ns)), some (.fz (.int (0 + (i : Int))))], ?_, ?_, ?_⟩
      · simp [wipeE]
      · simp [e1, e2]
      · simp [wipeE]
  have a : allD (.lst ((List.range n).map fun _ => D.bl true)) = some (.bl true) := by
    rw [all_bl (l := List.range n) (p := fun _ => true)]
    simp
  unfold d_law runF s_law
  simp [startE, e, a]
end K82

set_option Elab.async false
set_option linter.all false
set_option maxRecDepth 100000
set_option maxHeartbeats 0
namespace K82
open PySem PySem.Spec PyProof.Rows L2 Dl
abbrev R : PySem.W.OpenRow := PySem.W.OpenLaw.row PySem.Challenge.rw_letdays_k82_choices_cuts_and_takings_jud
abbrev hk : PySem.W.Hook := hookF 8 fa fn fb
def ob (s : PySem.W.SharedT) : He.AlD × Bool := obsFG 8 fa fn fb (HandSHeadRun.getT s)
theorem ob_eq (s : PySem.W.SharedT) : ob s = hk.obs s.abs := obsFG_eq (HandSHeadRun.getT_eq s)
def loose : List Str := [("_wall" : Str), ("__name__" : Str), ("LETTERS" : Str), ("MOST_LETTERS" : Str), ("ZERO" : Str), ("is_integer" : Str), ("is_count" : Str), ("is_list" : Str), ("is_name" : Str), ("are_names" : Str), ("DaysError" : Str), ("InvalidLots" : Str), ("MissingError" : Str), ("UnknownHouse" : Str), ("LimitError" : Str), ("TooMany" : Str), ("is_lot" : Str), ("want_lots" : Str), ("Lots" : Str), ("is_films_of" : Str), ("is_taking_by" : Str), ("is_taking" : Str), ("is_choice" : Str), ("is_cut" : Str), ("_law_pot" : Str), ("_law_draw" : Str), ("_law_pick" : Str), ("_law_rows" : Str), ("_law_lots" : Str), ("_law_takings" : Str), ("_law_films" : Str), ("_law_is_full" : Str), ("_law_is_taking" : Str), ("_law_spoilt" : Str), ("_law_judged" : Str), ("_law_cut_right" : Str), ("_law_odd_right" : Str), ("_law_right" : Str)]
theorem run (w : World) : HandSHeadRun.RunEq R (PySem.W.view R.prog [41]) hk ob 20000 loose w := by
  intro os
  kernel_rfl
end K82

set_option Elab.async false
set_option linter.all false
set_option maxRecDepth 100000
set_option maxHeartbeats 0
open PySem PySem.W PySem.Calls PyProof.Rows
theorem K82.law_end (hp : ∀ ns : List Int, ns.length ≤ 63 → K82.d_law [.scr ns] = .ok (.bl true)) : PySem.Challenge.rw_letdays_k82_choices_cuts_and_takings_jud.Holds := by
  w_on; o_law
  refine HandSHeadRun.head_any (r := OpenLaw.row PySem.Challenge.rw_letdays_k82_choices_cuts_and_takings_jud) (q := view (OpenLaw.row PySem.Challenge.rw_letdays_k82_choices_cuts_and_takings_jud).prog [41]) (H := K82.hk) (ob := K82.ob) (M := 20000) (loose := K82.loose) (d := HandSHeadRun.topDef (OpenLaw.row PySem.Challenge.rw_letdays_k82_choices_cuts_and_takings_jud).prog 41) (kwd := []) K82.ob_eq
    (by kernel_rfl) (fun s => by kernel_rfl) K82.run (by kernel_rfl) (by kernel_rfl) (by kernel_rfl) (by rfl) (by first | assumption | decide +kernel) (by decide +kernel) ⟨rfl, rfl, rfl, rfl, rfl, by decide +kernel⟩ ?hw ?hc
  case hw => w_witness2
  case hc =>
    refine Dl.walk_law (l := PySem.Challenge.rw_letdays_k82_choices_cuts_and_takings_jud) (n := 63) (k := 9) (x := "_law_script") (CX := L2.CX0) rfl (by decide) (by kernel_rfl) ⟨rfl, by decide, by decide⟩ ?F (fun _ _ _ _ z => z)
    intro w mg fa h Y G hmg0
    obtain ⟨K, KX, c⟩ := Y
    have V : K82.WD K mg := ⟨⟨h, KX, G⟩, c⟩
    have hmg : mg ("law" : PySem.Str) = some (.ref fa) := by
      have e : (HandSHeadRun.topDef (OpenLaw.row PySem.Challenge.rw_letdays_k82_choices_cuts_and_takings_jud).prog 41).name = ("law" : PySem.Str) := by kernel_rfl
      rw [← e]
      exact hmg0
    have e := hmg.symm.trans (V.glo 0 (x := "law") rfl)
    cases e
    obtain ⟨fd, F⟩ := V.d.def_ 31 (d := K82.df_31) rfl
    have b := L2.FunD.bindsA (ps := ["_law_script"]) F fun _ _ _ _ _ _ us hl => match us, hl with | [_], _ => rfl
    exact ⟨K, fd, fun vs H Q _ => Dl.spD K mg K82.d_law vs H Q fun _ _ _ => False, KX, fun s v => b s [v] rfl, fun H a ns hl _ hS => Dl.law_sp hp H a ns hl hS, fun base _ _ => Dl.law_fn F K82.sc_law (K82.ok_law V _)⟩
theorem PySem.Challenge.cw_letdays_k82_choices_cuts_and_takings_jud_holds : PySem.Challenge.rw_letdays_k82_choices_cuts_and_takings_jud.Holds := by
  exact K82.law_end K82.pure_law
